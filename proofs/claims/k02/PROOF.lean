import PyProof.Rows.All
import Wide.All
import OpenK.AllK
import Wide.FinOn
import HandS.ExcInit
import HandS.ExcIs
import HandS.IsInst
import KE.KExcIs
import HandS.ForMost
import HandS.ForExc
import HandS.TupAny
import HandS.Flow
import HandS.Style
import HandS.Zip
import HandS.StrMore
import HandS.TryOnly
import HandS.More
import KE.KUnpackStar
import PyProof.ReprLen
import PyProof.ReprRoads
import PyProof.RowDictHeap
import HandS.WordsDict
import PyProof.Rows.StrJoinMade
import HandS.ForDict
import KE.GoesEnum
import HandS.HeadHook3
import HandS.Set
import HandS.SetFor
import HandS.Strs
import HandS.SortInts
import HandS.Text
import KE.KDictList
import HandS.Iter
import HandS.Conv
import HandS.Star
import HandS.Dict
import HandS.SetKeys
import HandS.Small
import HandS.Defaults
import HandS.MakeKwOnly
import HandS.WordsExc
import KE.IntTextLaws
import HandS.RaiseMore
import HandS.ListItems
import HandS.Sort
import PyProof.Rows.TmTac
import PySem.Challenge.RW_switchlayout_k02_targets_integers_and_va
set_option Elab.async false
set_option linter.all false
set_option maxRecDepth 100000
set_option maxHeartbeats 4000000
/-! DX1: an exception of one's own class as a value: made by C(e), asked by isinstance. -/
namespace L2
open PySem PySem.Spec PyProof.Rows
section
variable {X : Cx} {e : Expr} {es : List Expr} {ta : TA} {p pos : Pos}
/-- C(e ..): the object that is made stays in the heap -/
def tMkV (C : Addr) (sp : Sp) (dvs : List V) (ta : TA) : TE := fun σ H Q => ta σ H fun vs H1 => vs.length ≤ 1000 ∧ ∀ a, H1 a = none →
  sp (.ref a :: (vs ++ dvs)) (upd H1 a (exo a C none)) (fun v H2 => v = .non ∧ Q (.ref a) H2) (fun _ _ _ => False)
theorem pe_oexV {CX : CXT} {x : Str} {C fI : Addr} {k : Nat} {fd : FuncData} {ps : List Str} {sp : Sp} {ds : List Value} {dvs : List V} (T : OexC X.K C) (iC : PySem.W.findIn X.K (.ref C) "__init__" = some (some (.ref fI))) (tI : PySem.W.typeIn X.K (.ref fI) = some (.type "function"))
    (F1 : FnOk X.prog X.w X.K X.mg X.base CX k fI fd ps sp) (hr : Room (k + 1) X.A) (hb : Binds X.K fd ps ds) (hd : Vals dvs ds) (hx : Passes CX X (fun _ _ _ => False)) (hg : Gl X x) (hm : X.mg x = some (.ref C)) (ha : PA X (e :: es) ta)
    (hdb : (x == ("__debug__" : Str)) = false := by decide) (he : starEach (e :: es) X.env = (false, eval e X.env) :: starEach es X.env := by rfl) (hpl : (backTo pos (starEach es X.env)).any (·.1) = false := by rfl) :
    PE X (.Call (.Name x p) (e :: es) [] pos) (tMkV C sp dvs ta) := by
  refine ⟨fun pins s σ H Q I h => ?_⟩
  obtain ⟨nm, q, N, bs, bm, sn, sub, ab, col, dd, k0, k1, k2, k3, k5, hC, hbm⟩ := T.cls
  refine wpAny_Call_Name_kw (ld_glob I hg hm ?_ hdb)
  refine PySem.W.callWith_K (h₀ := X.base) I.ok.mod.kin T.kC (thn (ha.run pos pins s σ H _ I h) fun us s1 ⟨vs, H1, I1, r1, hz, q1⟩ => ⟨I1.kIn, ?_⟩) he hpl
  show wpAny _ _ (call (.ref C) us) _ _ _
  obtain ⟨hp, g, dr, tk, os⟩ := s1
  have hsz : hp.objs.size ≤ hp.objs.size + 1 := Nat.le_succ _
  have hn : H1 (hp.objs.size + 1) = none := I1.hok.fresh hsz
  have hq := q1 (hp.objs.size + 1) hn
  have kk : ∀ b o, hp.get? b = some o → ((hp.push (PySem.W.kdv_tup us)).push (PySem.HandSPX.excO C hp.objs.size)).get? b = some o := fun b o e => Heap.get?_push_of_some _ (Heap.get?_push_of_some _ e)
  have hget : ((hp.push (PySem.W.kdv_tup us)).push (PySem.HandSPX.excO C hp.objs.size)).get? (hp.objs.size + 1) = some (PySem.HandSPX.excO C hp.objs.size) := by heap_get
  have I2 : Inv X pins σ (upd H1 (hp.objs.size + 1) (exo (hp.objs.size + 1) C none)) ⟨(hp.push (PySem.W.kdv_tup us)).push (PySem.HandSPX.excO C hp.objs.size), g, dr, tk, os⟩ :=
    I1.laid (t' := tk) (a := hp.objs.size + 1) (o := exo (hp.objs.size + 1) C none) (h' := (hp.push (PySem.W.kdv_tup us)).push (PySem.HandSPX.excO C hp.objs.size)) kk hsz (exo_ok hget)
  have r2 : Vals (V.ref (hp.objs.size + 1) :: (vs ++ dvs)) (Value.ref (hp.objs.size + 1) :: (us ++ ds)) := .cons rfl (r1.append hd)
  have hl : (Value.ref (hp.objs.size + 1) :: us ++ ds).length = ps.length := by
    have e := r2.length
    rw [F1.len _ _ _ _ hq] at e
    exact e.symm
  have hus : us.length ≤ sizeLine := by
    rw [← Paired.length r1, sizeLine_eq]
    omega
  refine wpAny_call (PySem.HandSPX.call_own F.excBase_ValueError (fun Y => PySem.HandSPX.refsVE_contains Y bm hbm) (I1.kIn _ _ hC) (PySem.W.looks_findIn I1.kIn iC) (fun self => PySem.W.bind_fn I1.kIn self tI) hus
    (codeAny_mono (F1.run _ X.stack _ _ ⟨Value.ref (hp.objs.size + 1) :: us, []⟩ (Value.ref (hp.objs.size + 1) :: (us ++ ds)) _ _ (fun _ _ _ => False) (hr.make C us []) (I2.env0.make C us []) (hb _ (Value.ref (hp.objs.size + 1) :: us) I2.kIn hl) r2 hq) fun r s' hq' => ?_))
  cases r with
  | error er => exact hx pins σ _ _ er s' I2 hq'
  | ok fl =>
    cases fl with
    | ret u =>
      obtain ⟨v, H2, os2, bare2, un2, hok2, rv, ev, q2⟩ := hq'
      subst ev
      exact ⟨rv, .ref (hp.objs.size + 1), H2, I2.call' (ch := []) os2 un2 hok2 bare2 (fun b z => absurd z (by simp)), rfl, q2⟩
    | next => exact False.elim hq'
    | brk => exact False.elim hq'
    | cont => exact False.elim hq'
end
/-- isinstance(e, T), e an exception object that stands in the heap -/
def rIsX (K : PySem.W.Frag) : List V → Hp → VK → Prop := fun xs H Q => ∃ (a C dx : Addr) (fs : List (Str × V)) (c : V) (u : Value) (b : Bool), xs = [.ref a, c] ∧ H a = some (exo a C (some dx)) ∧ H dx = some (exd dx fs) ∧ ExcC K C ∧ ClsV c u ∧ PySem.W.kitOne K (.ref C) u = some b ∧ Q (.bl b) H
def rIsXT (K : PySem.W.Frag) : List V → Hp → VK → Prop := fun xs H Q => ∃ (a C dx : Addr) (fs : List (Str × V)) (tp : Addr) (cs : List V) (us : List Value) (b : Bool), xs = [.ref a, .ref tp] ∧ H tp = some (.tup cs) ∧ Paired ClsV cs us ∧ H a = some (exo a C (some dx)) ∧ H dx = some (exd dx fs) ∧ ExcC K C ∧ PySem.W.kitAny K (.ref C) us = some b ∧ Q (.bl b) H
theorem exo_kit {X : Cx} {pins : List (Addr × Obj)} {σ : St} {H : Hp} {s : Shared} {a C : Addr} {dd : Option Addr} (E : ExcC X.K C) (I : Inv X pins σ H s) (ha : H a = some (exo a C dd)) (hd : ∀ dx, dd = some dx → ∃ o, s.heap.get? dx = some o) : ∃ P : Heap → Prop, PySem.W.KitX X.K (.ref a) (.ref C) P ∧ P s.heap := by
  obtain ⟨t1, hget⟩ := exo_at I.hok ha
  have hc : (PySem.W.clsIn X.K C).isSome = true := by
    obtain ⟨cd, h, _⟩ := PySem.W.any_some E.hd
    rw [h]; rfl
  cases dd with
  | none => exact ⟨_, PySem.W.kitx_exc (od := none) hc E.hg E.hk E.hs E.ha E.hn E.ht E.hm, ⟨hget, rfl, rfl, trivial⟩⟩
  | some dx =>
    obtain ⟨o, ho⟩ := hd dx rfl
    exact ⟨_, PySem.W.kitx_exc (od := some o) hc E.hg E.hk E.hs E.ha E.hn E.ht E.hm, ⟨hget, rfl, rfl, ho⟩⟩
theorem exd_there {P : Program} {w : World} {H : Hp} {h : Heap} {dx : Addr} {fs : List (Str × V)} (hok : HOk P w H h) (e : H dx = some (exd dx fs)) : ∃ o, h.get? dx = some o := by
  obtain ⟨_, hn, _⟩ := exd_at hok e
  obtain ⟨o, _, _, e1, _⟩ := hn
  exact ⟨o, e1⟩
section
variable {X : Cx}
theorem call_isX : CallR X (.builtin "isinstance") (rIsX X.K) := by
  intro pins s σ H xs us Q I r h
  obtain ⟨a, C, dx, fs, c, u, b, rfl, ha, hx, E, k, e, q⟩ := h
  obtain ⟨u1, u2, rfl, r1, r2⟩ := vals2 r
  have e2 := k.eq r2
  subst e2
  cases (show u1 = Value.ref a from r1)
  obtain ⟨P, Z, p⟩ := exo_kit E I ha fun dy z => by cases z; exact exd_there I.hok hx
  exact PySem.W.kia_one Z I.kIn p e (fun z => nomatch z) fun tk => ⟨.bl b, H, I.tok tk, rfl, q⟩
theorem call_isXT : CallR X (.builtin "isinstance") (rIsXT X.K) := by
  intro pins s σ H xs us Q I r h
  obtain ⟨a, C, dx, fs, tp, cs, ws, b, rfl, hT, k, ha, hx, E, e, q⟩ := h
  obtain ⟨u1, u2, rfl, r1, r2⟩ := vals2 r
  cases (show u2 = Value.ref tp from r2)
  cases (show u1 = Value.ref a from r1)
  obtain ⟨P, Z, p⟩ := exo_kit E I ha fun dy z => by cases z; exact exd_there I.hok hx
  obtain ⟨_, its, rv, o, h1, h2, n, h3⟩ := (show ObjOk X.prog X.w H s.heap tp (.tup cs) from I.hok tp _ hT)
  have e3 := ClsV.all k rv
  subst e3
  obtain ⟨oc, od, dt, sl⟩ := o
  simp only at h2 h3
  subst h2 h3
  exact PySem.W.kia_tup Z I.kIn p h1 e (fun z => nomatch z) fun tk => ⟨.bl b, H, I.tok tk, rfl, q⟩
end
/-- a class of exceptions whose objects may be had as values -/
structure XobC (K : PySem.W.Frag) (C : Addr) : Prop where
  e : ExcC K C
  k : ∀ T ∈ ["int", "bool", "str", "list", "tuple", "dict"], PySem.W.kitOne K (.ref C) (.type T) = some false
end L2
set_option Elab.async false
set_option linter.all false
set_option maxRecDepth 100000
set_option maxHeartbeats 4000000
/-! DL1: data, what a value stands for in a frozen heap, slots that own lists and dicts, steps of heaps, what an expression denotes. -/
namespace DL
open PySem L2
/-- data that does not change any more -/
inductive D where
  | non | bl (b : Bool) | int (i : Int) | str (x : Str) | ref (a : Addr) | ty (n : String)
  | lst (xs : List D) | tup (xs : List D) | dic (ks : List Key) (xs : List D) | ins (C : Addr) (ns : List Str) (xs : List D) | scr (ns : List Int) | xob (x : Str) (ns : List Str) (xs : List D)
  deriving Inhabited
/-- v stands for d in the frozen heap G -/
def R (K : PySem.W.Frag) (G : Hp) : D → V → Prop
  | .non, v => v = .non
  | .bl b, v => v = .bl b
  | .int i, v => v = .int i
  | .str x, v => v = .str x
  | .ref a, v => v = .ref a
  | .ty n, v => v = .ty n
  | .lst ds, v => ∃ a vs, v = .ref a ∧ G a = some (.lst vs) ∧ RL K G ds vs
  | .tup ds, v => ∃ a vs, v = .ref a ∧ SqT K G a vs ∧ RL K G ds vs
  | .dic ks ds, v => ∃ a ws, v = .ref a ∧ G a = some (.dK ws) ∧ ws.map (·.1) = ks ∧ RL K G ds (ws.map (·.2))
  | .ins C ns ds, v => ∃ a dx ws, v = .ref a ∧ G a = some (.ins C dx ws) ∧ ws.map (·.1) = ns ∧ RL K G ds (ws.map (·.2))
  | .scr ns, v => ∃ a, v = .ref a ∧ SqL K G a (ns.map V.int)
  | .xob x ns ds, v => ∃ a dx ws, v = .ref a ∧ (∃ C, PySem.W.nsIn K mainGlobals x = some (some (.ref C)) ∧ XobC K C ∧ G a = some (exo a C (some dx))) ∧ G dx = some (exd dx ws) ∧ ws.map (·.1) = ns ∧ RL K G ds (ws.map (·.2))
where
  RL (K : PySem.W.Frag) (G : Hp) : List D → List V → Prop
  | [], vs => vs = []
  | d :: ds, vs => ∃ v r, vs = v :: r ∧ R K G d v ∧ RL K G ds r
abbrev RL := @R.RL
def Ext (G G' : Hp) : Prop := ∀ a o, G a = some o → G' a = some o
theorem Ext.refl (G : Hp) : Ext G G := fun _ _ h => h
theorem Ext.trans {G G1 G2 : Hp} (a : Ext G G1) (b : Ext G1 G2) : Ext G G2 := fun x o h => b x o (a x o h)
theorem ext_rd {G G' : Hp} {a : Addr} {u : HO} (e : Ext G G') (h : Rd G a u) : Rd G' a u := by
  rcases h with h | ⟨o, h⟩
  · exact .inl (e _ _ h)
  · exact .inr ⟨o, e _ _ h⟩
theorem ext_l {K : PySem.W.Frag} {G G' : Hp} {a : Addr} {xs : List V} (e : Ext G G') (h : SqL K G a xs) : SqL K G' a xs := by
  rcases h with h | h
  · exact .inl (ext_rd e h)
  · exact .inr h
theorem ext_t {K : PySem.W.Frag} {G G' : Hp} {a : Addr} {xs : List V} (e : Ext G G') (h : SqT K G a xs) : SqT K G' a xs := by
  rcases h with h | h
  · exact .inl (ext_rd e h)
  · exact .inr h
mutual
theorem R.mono {K : PySem.W.Frag} {G G' : Hp} (e : Ext G G') : ∀ (d : D) (v : V), R K G d v → R K G' d v
  | .non, _, h | .bl _, _, h | .int _, _, h | .str _, _, h | .ref _, _, h | .ty _, _, h => by simpa only [R] using h
  | .lst ds, v, h => by
    simp only [R] at h ⊢
    obtain ⟨a, vs, h1, h2, h3⟩ := h
    exact ⟨a, vs, h1, e _ _ h2, RL.mono e ds vs h3⟩
  | .tup ds, v, h => by
    simp only [R] at h ⊢
    obtain ⟨a, vs, h1, h2, h3⟩ := h
    exact ⟨a, vs, h1, ext_t e h2, RL.mono e ds vs h3⟩
  | .dic ks ds, v, h => by
    simp only [R] at h ⊢
    obtain ⟨a, vs, h1, h2, h3, h4⟩ := h
    exact ⟨a, vs, h1, e _ _ h2, h3, RL.mono e ds _ h4⟩
  | .ins C ns ds, v, h => by
    simp only [R] at h ⊢
    obtain ⟨a, dx, vs, h1, h2, h3, h4⟩ := h
    exact ⟨a, dx, vs, h1, e _ _ h2, h3, RL.mono e ds _ h4⟩
  | .scr ns, v, h => by
    simp only [R] at h ⊢
    obtain ⟨a, h1, h2⟩ := h
    exact ⟨a, h1, ext_l e h2⟩
  | .xob C ns ds, v, h => by
    simp only [R] at h ⊢
    obtain ⟨a, dx, vs, h1, ⟨C, g1, g2, h2⟩, h3, h4, h5⟩ := h
    exact ⟨a, dx, vs, h1, ⟨C, g1, g2, e _ _ h2⟩, e _ _ h3, h4, RL.mono e ds _ h5⟩
theorem RL.mono {K : PySem.W.Frag} {G G' : Hp} (e : Ext G G') : ∀ (ds : List D) (vs : List V), RL K G ds vs → RL K G' ds vs
  | [], _, h => by simpa only [RL, R.RL] using h
  | d :: ds, _, h => by
    simp only [RL, R.RL] at h ⊢
    obtain ⟨v, r, h1, h2, h3⟩ := h
    exact ⟨v, r, h1, R.mono e d v h2, RL.mono e ds r h3⟩
end
theorem RL.nil {K : PySem.W.Frag} {G : Hp} : RL K G [] [] := by simp only [RL, R.RL]
theorem RL.cons {K : PySem.W.Frag} {G : Hp} {d : D} {ds : List D} {v : V} {vs : List V} (h : R K G d v) (t : RL K G ds vs) : RL K G (d :: ds) (v :: vs) := by
  simp only [RL, R.RL]
  exact ⟨v, vs, rfl, h, t⟩
theorem RL.len {K : PySem.W.Frag} {G : Hp} : ∀ {ds : List D} {vs : List V}, RL K G ds vs → vs.length = ds.length
  | [], vs, h => by
    simp only [RL, R.RL] at h
    subst h
    rfl
  | d :: ds, vs, h => by
    simp only [RL, R.RL] at h
    obtain ⟨v, r, rfl, _, h3⟩ := h
    have := RL.len h3
    simp [this]
theorem RL.get {K : PySem.W.Frag} {G : Hp} : ∀ {ds : List D} {vs : List V} {i : Nat} {d : D}, RL K G ds vs → ds[i]? = some d → ∃ v, vs[i]? = some v ∧ R K G d v
  | [], _, _, _, _, h => by simp at h
  | d :: ds, vs, 0, _, h, e => by
    simp only [RL, R.RL] at h
    obtain ⟨v, r, rfl, h2, h3⟩ := h
    simp at e
    subst e
    exact ⟨v, rfl, h2⟩
  | d :: ds, vs, i + 1, _, h, e => by
    simp only [RL, R.RL] at h
    obtain ⟨v, r, rfl, h2, h3⟩ := h
    obtain ⟨v', a, b⟩ := RL.get (i := i) h3 (by simpa using e)
    exact ⟨v', by simpa using a, b⟩
theorem RL.app {K : PySem.W.Frag} {G : Hp} : ∀ {ds es : List D} {vs ws : List V}, RL K G ds vs → RL K G es ws → RL K G (ds ++ es) (vs ++ ws)
  | [], _, _, _, h, t => by
    simp only [RL, R.RL] at h
    subst h
    exact t
  | d :: ds, _, vs, _, h, t => by
    simp only [RL, R.RL] at h
    obtain ⟨v, r, rfl, h2, h3⟩ := h
    exact RL.cons h2 (RL.app h3 t)
theorem RL.set {K : PySem.W.Frag} {G : Hp} {e : D} {w : V} (hw : R K G e w) : ∀ {ds : List D} {vs : List V} (i : Nat), RL K G ds vs → RL K G (ds.set i e) (vs.set i w)
  | [], _, i, h => by
    simp only [RL, R.RL] at h
    subst h
    exact RL.nil
  | d :: ds, vs, 0, h => by
    simp only [RL, R.RL] at h
    obtain ⟨v, r, rfl, h2, h3⟩ := h
    exact RL.cons hw h3
  | d :: ds, vs, i + 1, h => by
    simp only [RL, R.RL] at h
    obtain ⟨v, r, rfl, h2, h3⟩ := h
    exact RL.cons h2 (RL.set hw i h3)
theorem RL.drop {K : PySem.W.Frag} {G : Hp} : ∀ {ds : List D} {vs : List V} (i : Nat), RL K G ds vs → RL K G (ds.drop i) (vs.drop i)
  | _, _, 0, h => by simpa using h
  | [], _, i + 1, h => by
    simp only [RL, R.RL] at h
    subst h
    exact RL.nil
  | d :: ds, vs, i + 1, h => by
    simp only [RL, R.RL] at h
    obtain ⟨v, r, rfl, h2, h3⟩ := h
    exact RL.drop i h3
theorem RL.take {K : PySem.W.Frag} {G : Hp} : ∀ {ds : List D} {vs : List V} (i : Nat), RL K G ds vs → RL K G (ds.take i) (vs.take i)
  | _, _, 0, h => by
    simp only [List.take_zero]
    exact RL.nil
  | [], _, i + 1, h => by
    simp only [RL, R.RL] at h
    subst h
    exact RL.nil
  | d :: ds, vs, i + 1, h => by
    simp only [RL, R.RL] at h
    obtain ⟨v, r, rfl, h2, h3⟩ := h
    exact RL.cons h2 (RL.take i h3)
/-- the frozen heap is a part of the heap; a dict may be locked -/
def Le (G H : Hp) : Prop := ∀ a o, G a = some o → H a = some o ∨ ∃ ws ob, o = .dK ws ∧ H a = some (.frz ob o)
theorem Le.free {G H : Hp} (l : Le G H) {p : Addr} (h : H p = none) : G p = none := by
  cases e : G p with
  | none => rfl
  | some o =>
    rcases l p o e with z | ⟨_, _, _, z⟩ <;> (rw [h] at z; cases z)
theorem Le.lst {G H : Hp} (l : Le G H) {p : Addr} {vs : List V} (h : G p = some (.lst vs)) : H p = some (.lst vs) := by
  rcases l p _ h with z | ⟨_, _, e, _⟩
  · exact z
  · cases e
theorem Le.insx {G H : Hp} (l : Le G H) {p C dx : Addr} {vs : List (Str × V)} (h : G p = some (.ins C dx vs)) : H p = some (.ins C dx vs) := by
  rcases l p _ h with z | ⟨_, _, e, _⟩
  · exact z
  · cases e
theorem Le.extx {G H : Hp} (l : Le G H) {p : Addr} {φ : Heap → Prop} (h : G p = some (.ext φ)) : H p = some (.ext φ) := by
  rcases l p _ h with z | ⟨_, _, e, _⟩
  · exact z
  · cases e
theorem Le.rd {G H : Hp} (l : Le G H) {p : Addr} {u : HO} (h : G p = some u) : Rd H p u := by
  rcases l p _ h with z | ⟨_, ob, _, z⟩
  · exact .inl z
  · exact .inr ⟨ob, z⟩
theorem Le.sqt {K : PySem.W.Frag} {G H : Hp} (l : Le G H) {p : Addr} {vs : List V} (h : SqT K G p vs) : SqT K H p vs := by
  rcases h with (h | ⟨o, h⟩) | h
  · exact .inl (l.rd h)
  · rcases l p _ h with z | ⟨_, _, e, _⟩
    · exact .inl (.inr ⟨o, z⟩)
    · cases e
  · exact .inr h
theorem Le.sql {K : PySem.W.Frag} {G H : Hp} (l : Le G H) {p : Addr} {vs : List V} (h : SqL K G p vs) : SqL K H p vs := by
  rcases h with (h | ⟨o, h⟩) | h
  · exact .inl (l.rd h)
  · rcases l p _ h with z | ⟨_, _, e, _⟩
    · exact .inl (.inr ⟨o, z⟩)
    · cases e
  · exact .inr h
/-- what a slot holds: nothing known, data, a list or a dict of its own (t: the parameter's number, if it is the caller's) -/
inductive SV where
  | u | f (d : D) | ol (t : Option Nat) (ds : List D) | od (t : Option Nat) (ks : List Key) (ds : List D)
  deriving Inhabited
abbrev Sl := List SV
def SOk (K : PySem.W.Frag) (τ : Nat → Addr) (G H : Hp) (ov : Option V) : SV → Prop
  | .u => True
  | .f d => ∃ v, ov = some v ∧ R K G d v
  | .ol t ds => ∃ p vs, ov = some (.ref p) ∧ H p = some (.lst vs) ∧ G p = none ∧ RL K G ds vs ∧ ∀ j, t = some j → τ j = p
  | .od t ks ds => ∃ p ws, ov = some (.ref p) ∧ H p = some (.dK ws) ∧ G p = none ∧ ws.map (·.1) = ks ∧ RL K G ds (ws.map (·.2)) ∧ ∀ j, t = some j → τ j = p
def oa (ov : Option V) : SV → Option Addr
  | .ol _ _ => match ov with | some (.ref p) => some p | _ => none
  | .od _ _ _ => match ov with | some (.ref p) => some p | _ => none
  | _ => none
/-- the value in slot i -/
def vAt (σ : St) (i : Nat) : Option V := (σ[i]?).join
/-- slot i owns the object at p -/
def OwAt (σ : St) (S : Sl) (i : Nat) (p : Addr) : Prop := ∃ sv, S[i]? = some sv ∧ oa (vAt σ i) sv = some p
def Ow (σ : St) (S : Sl) (p : Addr) : Prop := ∃ i, OwAt σ S i p
structure SlOk (K : PySem.W.Frag) (τ : Nat → Addr) (G H : Hp) (σ : St) (S : Sl) : Prop where
  len : σ.length = S.length
  le : Le G H
  ok : ∀ i sv, S[i]? = some sv → SOk K τ G H (vAt σ i) sv
  ap : ∀ i j p, OwAt σ S i p → OwAt σ S j p → i = j
/-- the object at a stays, or it is a dict that is data and is locked from now on -/
def Kp (G H H' : Hp) (a : Addr) : Prop := H' a = H a ∨ ∃ ws ob, G a = some (.dK ws) ∧ H a = some (.dK ws) ∧ H' a = some (.frz ob (.dK ws))
theorem Kp.own {G H H' : Hp} {a : Addr} (h : Kp G H H' a) (hg : G a = none) : H' a = H a := by
  rcases h with h | ⟨_, _, e, _⟩
  · exact h
  · rw [hg] at e
    cases e
theorem Kp.ne {G H H' : Hp} {a : Addr} (h : Kp G H H' a) (hn : ∀ ws, H a ≠ some (.dK ws)) : H' a = H a := by
  rcases h with h | ⟨ws, _, _, e, _⟩
  · exact h
  · exact absurd e (hn ws)
/-- from (G, H) to (G', H'): nothing but what O owns and new objects is touched -/
structure Stp (O : Addr → Prop) (G H G' H' : Hp) : Prop where
  ext : Ext G G'
  keep : ∀ a, H a ≠ none → ¬ O a → Kp G H H' a ∧ G' a = G a
  stay : ∀ a, H a ≠ none → H' a ≠ none
theorem Stp.refl {O : Addr → Prop} {G H : Hp} : Stp O G H G H := ⟨Ext.refl _, fun _ _ _ => ⟨.inl rfl, rfl⟩, fun _ h => h⟩
theorem Stp.trans {O O1 : Addr → Prop} {G H G1 H1 G2 H2 : Hp} (a : Stp O G H G1 H1) (b : Stp O1 G1 H1 G2 H2) (ho : ∀ p, O1 p → O p ∨ H p = none) : Stp O G H G2 H2 := by
  refine ⟨a.ext.trans b.ext, fun p hp hn => ?_, fun p hp => b.stay p (a.stay p hp)⟩
  obtain ⟨e1, e2⟩ := a.keep p hp hn
  obtain ⟨f1, f2⟩ := b.keep p (a.stay p hp) fun z => (ho p z).elim hn hp
  refine ⟨?_, f2.trans e2⟩
  rcases e1 with e1 | ⟨ws, ob, g1, g2, g3⟩
  · rcases f1 with f1 | ⟨ws, ob, g1, g2, g3⟩
    · exact .inl (f1.trans e1)
    · exact .inr ⟨ws, ob, e2.symm.trans g1, e1.symm.trans g2, g3⟩
  · have f1' := f1.ne fun ws' z => by
      rw [g3] at z
      cases z
    exact .inr ⟨ws, ob, g1, g2, f1'.trans g3⟩
theorem Stp.imp {O O1 : Addr → Prop} {G H G' H' : Hp} (a : Stp O G H G' H') (h : ∀ p, H p ≠ none → O p → O1 p) : Stp O1 G H G' H' :=
  ⟨a.ext, fun p hp hn => a.keep p hp fun z => hn (h p hp z), a.stay⟩
theorem SOk.owned {K : PySem.W.Frag} {τ : Nat → Addr} {G H : Hp} {ov : Option V} {sv : SV} {p : Addr} (h : SOk K τ G H ov sv) (e : oa ov sv = some p) : H p ≠ none ∧ G p = none := by
  cases sv with
  | u => cases e
  | f d => cases e
  | ol t ds =>
    obtain ⟨q, vs, rfl, h2, h3, _⟩ := h
    cases e
    exact ⟨by rw [h2]; simp, h3⟩
  | od t ks ds =>
    obtain ⟨q, vs, rfl, h2, h3, _⟩ := h
    cases e
    exact ⟨by rw [h2]; simp, h3⟩
theorem SlOk.owned {K : PySem.W.Frag} {τ : Nat → Addr} {G H : Hp} {σ : St} {S : Sl} {p : Addr} (h : SlOk K τ G H σ S) (e : Ow σ S p) : H p ≠ none ∧ G p = none := by
  obtain ⟨i, sv, h1, h2⟩ := e
  exact (h.ok i sv h1).owned h2
/-- a slot's word stays where its object stays -/
theorem SOk.keep {K : PySem.W.Frag} {τ : Nat → Addr} {G H G' H' : Hp} {ov : Option V} {sv : SV} (h : SOk K τ G H ov sv) (e : Ext G G') (k : ∀ p, oa ov sv = some p → H' p = H p ∧ G' p = G p) : SOk K τ G' H' ov sv := by
  cases sv with
  | u => trivial
  | f d =>
    obtain ⟨v, h1, h2⟩ := h
    exact ⟨v, h1, R.mono e _ _ h2⟩
  | ol t ds =>
    obtain ⟨q, vs, rfl, h2, h3, h4, h5⟩ := h
    obtain ⟨k1, k2⟩ := k q rfl
    exact ⟨q, vs, rfl, k1.trans h2, k2.trans h3, RL.mono e _ _ h4, h5⟩
  | od t ks ds =>
    obtain ⟨q, vs, rfl, h2, h3, h4, h5, h6⟩ := h
    obtain ⟨k1, k2⟩ := k q rfl
    exact ⟨q, vs, rfl, k1.trans h2, k2.trans h3, h4, RL.mono e _ _ h5, h6⟩
/-- all slots stay over a step that touches none of them -/
theorem SlOk.step {K : PySem.W.Frag} {τ : Nat → Addr} {G H G' H' : Hp} {σ : St} {S : Sl} {O : Addr → Prop} (h : SlOk K τ G H σ S) (s : Stp O G H G' H') (l : Le G' H') (no : ∀ p, Ow σ S p → ¬ O p) : SlOk K τ G' H' σ S := by
  refine ⟨h.len, l, fun i sv e => (h.ok i sv e).keep s.ext fun p hp => ?_, h.ap⟩
  obtain ⟨k1, k2⟩ := s.keep p ((h.ok i sv e).owned hp).1 (no p ⟨i, sv, e, hp⟩)
  exact ⟨k1.own ((h.ok i sv e).owned hp).2, k2⟩
/-- a new object, of which the slots know nothing -/
theorem stp_new {G H : Hp} {p : Addr} {o : HO} (hp : H p = none) : Stp (fun _ => False) G H G (upd H p o) := by
  have ne : ∀ a, H a ≠ none → a ≠ p := fun a ha e => ha (by rw [e]; exact hp)
  refine ⟨Ext.refl _, fun a ha _ => ⟨.inl (upd_ne (ne a ha)), rfl⟩, fun a ha => ?_⟩
  rw [upd_ne (ne a ha)]
  exact ha
theorem le_new {G H : Hp} {p : Addr} {o : HO} (l : Le G H) (hp : H p = none) : Le G (upd H p o) := fun a u e => by
  have hn : a ≠ p := by
    rintro rfl
    rw [l.free hp] at e
    cases e
  rw [upd_ne hn]
  exact l a u e
/-- an object that no one owns is frozen -/
theorem stp_frz {G H : Hp} {p : Addr} {o : HO} (hg : G p = none) : Stp (fun q => q = p) G H (upd G p o) H := by
  refine ⟨fun a u e => ?_, fun a _ hn => ⟨.inl rfl, upd_ne hn⟩, fun a ha => ha⟩
  rw [upd_ne (ne_of_none e hg)]
  exact e
theorem le_frz {G H : Hp} {p : Addr} {o : HO} (l : Le G H) (hp : H p = some o) : Le (upd G p o) H := fun a u e => by
  by_cases h : a = p
  · subst h
    rw [upd_same] at e
    cases e
    exact .inl hp
  · rw [upd_ne h] at e
    exact l a u e
/-! ### results -/
/-- an exception: its class, its fields -/
structure XD where
  cls : Addr
  ns : List Str
  xs : List D
inductive Rs (α : Type) where
  | ok (a : α) (S : Sl)
  | ex (x : XD) (S : Sl)
  | no
def Rs.bind {α β : Type} (r : Rs α) (k : α → Sl → Rs β) : Rs β := match r with
  | .ok a S => k a S
  | .ex x S => .ex x S
  | .no => .no
@[simp] theorem Rs.bind_ok {α β : Type} {a : α} {S : Sl} {k : α → Sl → Rs β} : (Rs.ok a S).bind k = k a S := rfl
@[simp] theorem Rs.bind_ex {α β : Type} {x : XD} {S : Sl} {k : α → Sl → Rs β} : (Rs.ex (α := α) x S).bind k = .ex x S := rfl
@[simp] theorem Rs.bind_no {α β : Type} {k : α → Sl → Rs β} : (Rs.no (α := α)).bind k = .no := rfl
/-- an expression's value: data, a new list, a new dict -/
inductive RV where
  | f (d : D) | ol (ds : List D) | od (ks : List Key) (ds : List D) | bo (i : Nat)
/-- an operand: data, or the own object of a slot -/
inductive NV where
  | f (d : D) | bo (i : Nat)
def RVOk (K : PySem.W.Frag) (G H : Hp) (σ : St) (v : V) : RV → Prop
  | .f d => R K G d v
  | .ol ds => ∃ p vs, v = .ref p ∧ H p = some (.lst vs) ∧ G p = none ∧ RL K G ds vs
  | .od ks ds => ∃ p ws, v = .ref p ∧ H p = some (.dK ws) ∧ G p = none ∧ ws.map (·.1) = ks ∧ RL K G ds (ws.map (·.2))
  | .bo i => σ[i]? = some (some v)
def NVOk (K : PySem.W.Frag) (G : Hp) (σ : St) (v : V) : NV → Prop
  | .f d => R K G d v
  | .bo i => σ[i]? = some (some v)
def ra (v : V) : RV → Option Addr
  | .ol _ => match v with | .ref p => some p | _ => none
  | .od _ _ => match v with | .ref p => some p | _ => none
  | _ => none
theorem NVOk.mono {K : PySem.W.Frag} {G G' : Hp} {σ : St} {v : V} {n : NV} (h : NVOk K G σ v n) (e : Ext G G') : NVOk K G' σ v n := by
  cases n with
  | f d => exact R.mono e _ _ h
  | bo i => exact h
/-- behind an expression -/
structure Pst (K : PySem.W.Frag) (τ : Nat → Addr) (σ : St) (S : Sl) (G H : Hp) (S' : Sl) (G' H' : Hp) : Prop where
  st : Stp (Ow σ S) G H G' H'
  sl : SlOk K τ G' H' σ S'
  ow : ∀ p, Ow σ S' p → Ow σ S p
theorem Pst.refl {K : PySem.W.Frag} {τ : Nat → Addr} {σ : St} {S : Sl} {G H : Hp} (h : SlOk K τ G H σ S) : Pst K τ σ S G H S G H := ⟨Stp.refl, h, fun _ z => z⟩
theorem Pst.trans {K : PySem.W.Frag} {τ : Nat → Addr} {σ : St} {S S1 S2 : Sl} {G H G1 H1 G2 H2 : Hp} (a : Pst K τ σ S G H S1 G1 H1) (b : Pst K τ σ S1 G1 H1 S2 G2 H2) : Pst K τ σ S G H S2 G2 H2 :=
  ⟨a.st.trans b.st fun p z => .inl (a.ow p z), b.sl, fun p z => a.ow p (b.ow p z)⟩
abbrev WX' := Value → Option Addr → St → Hp → Prop
/-- an exception in flight: its class, its own dict in the heap (new) -/
def XOk (K : PySem.W.Frag) (G H H' : Hp) (x : XD) (cls : Value) (d : Option Addr) : Prop :=
  cls = .ref x.cls ∧ ((x.ns = [] ∧ x.xs = []) ∨ ∃ dd ws, d = some dd ∧ H dd = none ∧ H' dd = some (.xd ws) ∧ ws.map (·.1) = x.ns ∧ RL K G x.xs (ws.map (·.2)))
theorem XOk.back {K : PySem.W.Frag} {G H H1 H' : Hp} {x : XD} {cls : Value} {d : Option Addr} (h : XOk K G H1 H' x cls d) (k : ∀ a, H a ≠ none → H1 a ≠ none) : XOk K G H H' x cls d := by
  refine ⟨h.1, h.2.imp id fun ⟨dd, ws, e1, e2, e3⟩ => ⟨dd, ws, e1, ?_, e3⟩⟩
  cases e : H dd with
  | none => rfl
  | some o => exact absurd e2 (k dd (by rw [e]; simp))
theorem none_back {H H1 : Hp} (k : ∀ a, H a ≠ none → H1 a ≠ none) {p : Addr} (h : H1 p = none) : H p = none := by
  cases e : H p with
  | none => rfl
  | some o => exact absurd h (k p (by rw [e]; simp))
/-- what is to be shown behind a piece of syntax, by what it denotes; ok tells how a result stands for a value (start heap, G', H') -/
def Gd {α β : Type} (ok : Hp → Hp → Hp → β → α → Prop) (K : PySem.W.Frag) (W : WX') (τ : Nat → Addr) (σ : St) (S : Sl) (G H : Hp) (o : Rs α) (Q : β → Hp → Prop) : Prop := match o with
  | .ok r S' => ∀ v G' H', Pst K τ σ S G H S' G' H' → ok H G' H' v r → Q v H'
  | .ex x S' => ∀ cls d G' H', Pst K τ σ S G H S' G' H' → XOk K G' H H' x cls d → W cls d σ H'
  | .no => False
abbrev Okk (α β : Type) := PySem.W.Frag → St → Hp → Hp → Hp → β → α → Prop
def Dn {α β : Type} (ok : Okk α β) (K : PySem.W.Frag) (W : WX') (t : St → Hp → (β → Hp → Prop) → Prop) (f : Sl → Rs α) : Prop :=
  ∀ τ σ S G H, SlOk K τ G H σ S → ∀ Q : β → Hp → Prop, Gd (ok K σ) K W τ σ S G H (f S) Q → t σ H Q
abbrev okR : Okk RV V := fun K σ H G' H' v r => RVOk K G' H' σ v r ∧ ∀ p, ra v r = some p → H p = none
abbrev okN : Okk NV V := fun K σ _ G' _ v r => NVOk K G' σ v r
abbrev okB : Okk Bool Bool := fun _ _ _ _ _ v r => v = r
abbrev okA : Okk (List NV) (List V) := fun K σ _ G' _ vs rs => Paired (NVOk K G' σ) vs rs
abbrev Den := Dn okR
abbrev DenN := Dn okN
abbrev DenT := Dn okB
abbrev DenA := Dn okA
/-- a result that is new from a later heap is new from an earlier one -/
def Bk {α β : Type} (ok : Okk α β) : Prop := ∀ K σ H H1 G' H' v r, (∀ a, H a ≠ none → H1 a ≠ none) → ok K σ H1 G' H' v r → ok K σ H G' H' v r
theorem bkR : Bk okR := fun _ _ _ _ _ _ _ _ k h => ⟨h.1, fun p e => none_back k (h.2 p e)⟩
theorem bkN : Bk okN := fun _ _ _ _ _ _ _ _ _ h => h
theorem bkB : Bk okB := fun _ _ _ _ _ _ _ _ _ h => h
theorem bkA : Bk okA := fun _ _ _ _ _ _ _ _ _ h => h
theorem Gd.back {α β : Type} {ok : Okk α β} (bk : Bk ok) {K : PySem.W.Frag} {W : WX'} {τ : Nat → Addr} {σ : St} {S S1 : Sl} {G H G1 H1 : Hp} {o : Rs α} {Q : β → Hp → Prop} (P : Pst K τ σ S G H S1 G1 H1) (h : Gd (ok K σ) K W τ σ S G H o Q) :
    Gd (ok K σ) K W τ σ S1 G1 H1 o Q := by
  cases o with
  | ok r S' => exact fun v G' H' P' o' => h v G' H' (P.trans P') (bk _ _ _ _ _ _ _ _ P.st.stay o')
  | ex x S' => exact fun c d G' H' P' o' => h c d G' H' (P.trans P') (o'.back P.st.stay)
  | no => exact h
/-- one piece, then another -/
theorem Dn.bind {α β γ δ : Type} {ok1 : Okk α β} {ok2 : Okk γ δ} {K : PySem.W.Frag} {W : WX'} {t : St → Hp → (β → Hp → Prop) → Prop} {f : Sl → Rs α} {u : β → St → Hp → (δ → Hp → Prop) → Prop} {k : α → Sl → Rs γ}
    (bk : Bk ok2) (hf : Dn ok1 K W t f) (hk : ∀ τ σ S1 G1 H H1 x a, SlOk K τ G1 H1 σ S1 → ok1 K σ H G1 H1 x a → ∀ Q, Gd (ok2 K σ) K W τ σ S1 G1 H1 (k a S1) Q → u x σ H1 Q) :
    Dn ok2 K W (fun σ H Q => t σ H fun x H1 => u x σ H1 Q) (fun S => (f S).bind k) := by
  intro τ σ S G H h Q hq
  refine hf τ σ S G H h _ ?_
  cases e : f S with
  | ok a S1 =>
    simp only [e, Rs.bind_ok] at hq
    exact fun x G1 H1 P o => hk τ σ S1 G1 H H1 x a P.sl o Q (hq.back bk P)
  | ex x S1 =>
    simp only [e, Rs.bind_ex] at hq
    exact hq
  | no =>
    simp only [e, Rs.bind_no] at hq
    exact hq
/-- a piece that changes nothing -/
theorem Dn.pure {α β : Type} {ok : Okk α β} {K : PySem.W.Frag} {W : WX'} {t : St → Hp → (β → Hp → Prop) → Prop} {a : α} (h : ∀ τ σ S G H, SlOk K τ G H σ S → ∀ Q : β → Hp → Prop, (∀ v, ok K σ H G H v a → Q v H) → t σ H Q) :
    Dn ok K W t (fun S => .ok a S) := fun τ σ S G H s Q hq => h τ σ S G H s Q fun v o => hq v G H (Pst.refl s) o
/-- behind an object that was made and changes no slot -/
theorem Pst.new {K : PySem.W.Frag} {τ : Nat → Addr} {σ : St} {S : Sl} {G H G' H' : Hp} (h : SlOk K τ G H σ S) (s : Stp (fun _ => False) G H G' H') (l : Le G' H') : Pst K τ σ S G H S G' H' :=
  ⟨s.imp fun _ _ z => z.elim, h.step s l fun _ _ z => z, fun _ z => z⟩
/-- a new object is frozen -/
theorem stp_newF {G H : Hp} {p : Addr} {o : HO} (l : Le G H) (hp : H p = none) : Stp (fun _ => False) G H (upd G p o) (upd H p o) := by
  have ne : ∀ a, H a ≠ none → a ≠ p := fun a ha e => ha (by rw [e]; exact hp)
  refine ⟨fun a u e => ?_, fun a ha _ => ⟨.inl (upd_ne (ne a ha)), upd_ne (ne a ha)⟩, fun a ha => ?_⟩
  · rw [upd_ne (ne_of_none e (l.free hp))]
    exact e
  · rw [upd_ne (ne a ha)]
    exact ha
theorem le_newF {G H : Hp} {p : Addr} {o : HO} (l : Le G H) (hp : H p = none) : Le (upd G p o) (upd H p o) := fun a u e => by
  by_cases h : a = p
  · subst h
    rw [upd_same] at e ⊢
    exact .inl e
  · rw [upd_ne h] at e ⊢
    exact l a u e
/-- a new list or dict becomes data -/
def RV.frz : RV → NV
  | .f d => .f d
  | .ol ds => .f (.lst ds)
  | .od ks ds => .f (.dic ks ds)
  | .bo i => .bo i
def frz (f : Sl → Rs RV) : Sl → Rs NV := fun S => (f S).bind fun r S' => .ok r.frz S'
theorem pst_frz {K : PySem.W.Frag} {τ : Nat → Addr} {σ : St} {S S' : Sl} {G H G' H' : Hp} {p : Addr} {o : HO} (h : SlOk K τ G H σ S) (P : Pst K τ σ S G H S' G' H') (hp : H p = none) (ho : H' p = some o) (hg : G' p = none) : Pst K τ σ S G H S' (upd G' p o) H' := by
  have nO : ∀ q, Ow σ S' q → q ≠ p := fun q z e => (h.owned (P.ow q z)).1 (by rw [e]; exact hp)
  refine ⟨⟨P.st.ext.trans (stp_frz (H := H') hg).ext, fun a ha hn => ?_, P.st.stay⟩, P.sl.step (stp_frz hg) (le_frz P.sl.le ho) nO, P.ow⟩
  have ne : a ≠ p := fun e => ha (by rw [e]; exact hp)
  rw [upd_ne ne]
  exact P.st.keep a ha hn
theorem RVOk.frz {K : PySem.W.Frag} {G H : Hp} {σ : St} {v : V} {r : RV} (h : RVOk K G H σ v r) : (∃ p o, ra v r = some p ∧ H p = some o ∧ G p = none ∧ NVOk K (upd G p o) σ v r.frz) ∨ NVOk K G σ v r.frz := by
  cases r with
  | f d => exact .inr h
  | bo i => exact .inr h
  | ol ds =>
    obtain ⟨p, vs, rfl, h1, h2, h3⟩ := h
    refine .inl ⟨p, _, rfl, h1, h2, ?_⟩
    show R K _ (.lst ds) _
    simp only [R]
    exact ⟨p, vs, rfl, upd_same, RL.mono (stp_frz (H := H) h2).ext _ _ h3⟩
  | od ks ds =>
    obtain ⟨p, vs, rfl, h1, h2, h4, h3⟩ := h
    refine .inl ⟨p, _, rfl, h1, h2, ?_⟩
    show R K _ (.dic ks ds) _
    simp only [R]
    exact ⟨p, vs, rfl, upd_same, h4, RL.mono (stp_frz (H := H) h2).ext _ _ h3⟩
theorem den_frz {K : PySem.W.Frag} {W : WX'} {te : TE} {f : Sl → Rs RV} (hf : Den K W te f) : DenN K W te (frz f) := by
  intro τ σ S G H h Q hq
  refine hf τ σ S G H h _ ?_
  unfold frz at hq
  cases e : f S with
  | ok a S1 =>
    simp only [e, Rs.bind_ok] at hq
    intro v G1 H1 P ⟨o, fr⟩
    rcases o.frz with ⟨p, ob, h1, h2, h3, h4⟩ | h4
    · exact hq v _ H1 (pst_frz h P (fr p h1) h2 h3) h4
    · exact hq v _ H1 P h4
  | ex x S1 =>
    simp only [e, Rs.bind_ex] at hq
    exact hq
  | no =>
    simp only [e, Rs.bind_no] at hq
    exact hq
/-! ### operands seen as data -/
def view (S : Sl) : NV → Option D
  | .f d => some d
  | .bo i => match S[i]? with
    | some (.ol _ ds) => some (.lst ds)
    | some (.od _ ks ds) => some (.dic ks ds)
    | some (.f d) => some d
    | _ => none
/-- v reads as d: frozen, or an own list or dict as it stands -/
inductive RX (K : PySem.W.Frag) (G H : Hp) : D → V → Prop
  | f {d : D} {v : V} (h : R K G d v) : RX K G H d v
  | ol {ds : List D} {p : Addr} {vs : List V} (h : H p = some (.lst vs)) (r : RL K G ds vs) : RX K G H (.lst ds) (.ref p)
  | od {ks : List Key} {ds : List D} {p : Addr} {ws : List (Key × V)} (h : H p = some (.dK ws)) (k : ws.map (·.1) = ks) (r : RL K G ds (ws.map (·.2))) : RX K G H (.dic ks ds) (.ref p)
theorem view_ok {K : PySem.W.Frag} {τ : Nat → Addr} {G H : Hp} {σ : St} {S : Sl} {v : V} {n : NV} {d : D} (h : SlOk K τ G H σ S) (o : NVOk K G σ v n) (e : view S n = some d) : RX K G H d v := by
  cases n with
  | f d' =>
    cases e
    exact .f o
  | bo i =>
    have ov : vAt σ i = some v := by
      show (σ[i]?).join = some v
      rw [show σ[i]? = some (some v) from o]
      rfl
    simp only [view] at e
    cases q : S[i]? with
    | none => rw [q] at e; cases e
    | some sv =>
      have k := h.ok i sv q
      rw [ov] at k
      rw [q] at e
      cases sv with
      | u => cases e
      | f d' =>
        cases e
        obtain ⟨w, e1, r⟩ := k
        cases e1
        exact .f r
      | ol t ds =>
        cases e
        obtain ⟨p, vs, e1, e2, _, e4, _⟩ := k
        cases e1
        exact .ol e2 e4
      | od t ks ds =>
        cases e
        obtain ⟨p, vs, e1, e2, _, e3, e4, _⟩ := k
        cases e1
        exact .od e2 e3 e4
/-- a two-place operation on data -/
def OpOk (K : PySem.W.Frag) (r : R2) (op : D → D → Option RV) : Prop :=
  ∀ G H x y d e o, Le G H → RX K G H d x → RX K G H e y → op d e = some o → ∀ Q : VK, (∀ v G' H', Stp (fun _ => False) G H G' H' → Le G' H' → (∀ σ, RVOk K G' H' σ v o) → (∀ p, ra v o = some p → H p = none) → Q v H') → r x y H Q
def lift2 (op : D → D → Option RV) (a b : NV) (S : Sl) : Rs RV := match view S a, view S b with
  | some d, some e => (match op d e with
    | some o => .ok o S
    | none => .no)
  | _, _ => .no
def fOp (op : D → D → Option RV) (f g : Sl → Rs NV) : Sl → Rs RV := fun S => (f S).bind fun a S1 => (g S1).bind fun b S2 => lift2 op a b S2
theorem den_op {K : PySem.W.Frag} {W : WX'} {r : R2} {op : D → D → Option RV} {ta tb : TE} {f g : Sl → Rs NV} (ho : OpOk K r op) (hf : DenN K W ta f) (hg : DenN K W tb g) : Den K W (tOp r ta tb) (fOp op f g) := by
  refine Dn.bind (t := ta) (u := fun x σ H1 Q => tb σ H1 fun y H2 => r x y H2 Q) bkR hf fun τ σ S1 G1 H0 H1 x a h1 oa Q hq => ?_
  refine hg τ σ S1 G1 H1 h1 _ ?_
  cases e : g S1 with
  | ok b S2 =>
    simp only [e, Rs.bind_ok] at hq
    intro y G2 H2 P2 ob
    have hq2 := hq.back bkR P2
    unfold lift2 at hq2
    cases ea : view S2 a with
    | none => simp only [ea] at hq2; exact hq2.elim
    | some d =>
      cases eb : view S2 b with
      | none => simp only [ea, eb] at hq2; exact hq2.elim
      | some d' =>
        cases eo : op d d' with
        | none => simp only [ea, eb, eo] at hq2; exact hq2.elim
        | some o =>
          simp only [ea, eb, eo] at hq2
          refine ho G2 H2 x y d d' o P2.sl.le (view_ok P2.sl (NVOk.mono oa P2.st.ext) ea) (view_ok P2.sl ob eb) eo Q fun v G' H' s l r fr => ?_
          exact hq2 v G' H' (Pst.new P2.sl s l) ⟨r σ, fr⟩
  | ex x S2 =>
    simp only [e, Rs.bind_ex] at hq
    exact hq
  | no =>
    simp only [e, Rs.bind_no] at hq
    exact hq
end DL
set_option Elab.async false
set_option linter.all false
set_option maxRecDepth 100000
set_option maxHeartbeats 4000000
/-! DL2: expressions and tests, construct by construct. -/
namespace DL
open PySem L2
/-- what stands around a piece of code -/
structure Cg (A : Around) (k : Nat) : Prop where
  room : Room k A
  gd : A.guards = some []
theorem Cg.mono {A : Around} {j k : Nat} (c : Cg A k) (h : j ≤ k) : Cg A j := ⟨c.room.mono h, c.gd⟩
def DE (X : Cx) (W : WX') (e : Expr) (f : Sl → Rs RV) : Prop := ∃ t, PE X e t ∧ Den X.K W t f
def DN (X : Cx) (W : WX') (e : Expr) (f : Sl → Rs NV) : Prop := ∃ t, PE X e t ∧ DenN X.K W t f
def DT (X : Cx) (W : WX') (e : Expr) (f : Sl → Rs Bool) : Prop := ∃ t, PT X e t ∧ DenT X.K W t f
def DW (X : Cx) (W : WX') (e : Expr) (f : Sl → Rs Bool) : Prop := ∃ t, PW X e t ∧ DenT X.K W t f
/-- as many results as arguments -/
def LenA (f : Sl → Rs (List NV)) (n : Nat) : Prop := ∀ S ns S', f S = .ok ns S' → ns.length = n
def DA (X : Cx) (W : WX') (es : List Expr) (f : Sl → Rs (List NV)) : Prop := ∃ t, PA X es t ∧ DenA X.K W t f ∧ LenA f es.length
section
variable {X : Cx} {W : WX'} {e a b c : Expr} {es : List Expr} {f g h : Sl → Rs RV} {f1 g1 h1 : Sl → Rs NV} {fb gb : Sl → Rs Bool} {pos : Pos}
theorem DE.n (d : DE X W e f) : DN X W e (frz f) := let ⟨t, p, q⟩ := d; ⟨t, p, den_frz q⟩
/-! ### names and constants -/
def fC (d : D) : Sl → Rs RV := fun S => .ok (.f d) S
theorem den_c {K : PySem.W.Frag} {v : V} {d : D} (h : ∀ G, R K G d v) : Den K W (tC v) (fC d) := Dn.pure fun τ σ S G H s Q q => q v ⟨h G, fun _ e => nomatch e⟩
theorem de_int {i j} : DE X W (.Constant (.int i) j pos) (fC (.int i)) := ⟨_, pe_int, den_c fun _ => rfl⟩
theorem de_bl {i j} : DE X W (.Constant (.bool i) j pos) (fC (.bl i)) := ⟨_, pe_bl, den_c fun _ => rfl⟩
theorem de_non {j} : DE X W (.Constant .none j pos) (fC .non) := ⟨_, pe_non, den_c fun _ => rfl⟩
theorem de_str {i j} : DE X W (.Constant (.str i) j pos) (fC (.str i)) := ⟨_, pe_str, den_c fun _ => rfl⟩
/-- a global that is a plain value -/
theorem de_glob {x : Str} {v : V} {u : Value} {d : D} (hm : X.mg x = some u) (r : RelV v u) (hd : ∀ G, R X.K G d v) (hg : Gl X x := by rfl) (hdb : (x == ("__debug__" : Str)) = false := by decide) : DE X W (.Name x pos) (fC d) :=
  ⟨_, pe_glob hg hm r hdb, den_c hd⟩
def fVar (i : Nat) : Sl → Rs RV := fun S => match S[i]? with
  | some (.f d) => .ok (.f d) S
  | some (.ol _ _) => .ok (.bo i) S
  | some (.od _ _ _) => .ok (.bo i) S
  | _ => .no
theorem vAt_some {σ : St} {i : Nat} {v : V} (h : vAt σ i = some v) : σ[i]? = some (some v) := by
  unfold vAt at h
  cases e : σ[i]? with
  | none => rw [e] at h; cases h
  | some o =>
    rw [e] at h
    cases o with
    | none => cases h
    | some w => cases h; rfl
theorem den_var {K : PySem.W.Frag} (i : Nat) : Den K W (tVar i) (fVar i) := by
  intro τ σ S G H s Q hq
  unfold fVar at hq
  cases e : S[i]? with
  | none => simp only [e] at hq; exact hq.elim
  | some sv =>
    simp only [e] at hq
    have k := s.ok i sv e
    cases sv with
    | u => exact hq.elim
    | f d =>
      obtain ⟨v, h1, h2⟩ := k
      exact ⟨v, vAt_some h1, hq v G H (Pst.refl s) ⟨h2, fun _ z => nomatch z⟩⟩
    | ol t ds =>
      obtain ⟨p, vs, h1, _⟩ := k
      exact ⟨_, vAt_some h1, hq _ G H (Pst.refl s) ⟨vAt_some h1, fun _ z => nomatch z⟩⟩
    | od t ks ds =>
      obtain ⟨p, vs, h1, _⟩ := k
      exact ⟨_, vAt_some h1, hq _ G H (Pst.refl s) ⟨vAt_some h1, fun _ z => nomatch z⟩⟩
theorem de_var (i : Nat) {x : Str} (hN : X.N[i]? = some x := by rfl) (hv : Vis X.env.scope x := by first | exact Or.inl rfl | exact Or.inr (Or.inl rfl) | exact Or.inr (Or.inr rfl)) (hd : (x == ("__debug__" : Str)) = false := by decide)
    (hcd : (x == ("__classdict__" : Str)) = false := by decide) : DE X W (.Name x pos) (fVar i) := ⟨_, pe_var hN hv hd hcd, den_var i⟩
/-- a slot's own list or dict becomes data -/
def fVarF (i : Nat) : Sl → Rs RV := fun S => match S[i]? with
  | some (.f d) => .ok (.f d) S
  | some (.ol none ds) => .ok (.f (.lst ds)) (S.set i (.f (.lst ds)))
  | some (.od none ks ds) => .ok (.f (.dic ks ds)) (S.set i (.f (.dic ks ds)))
  | _ => .no
theorem getElem?_set_of {α : Type} {l : List α} {i j : Nat} {x y : α} (h : (l.set i x)[j]? = some y) : (j = i ∧ y = x) ∨ (j ≠ i ∧ l[j]? = some y) := by
  by_cases e : j = i
  · subst e
    by_cases hl : j < l.length
    · rw [List.getElem?_set_self hl] at h
      cases h
      exact .inl ⟨rfl, rfl⟩
    · rw [List.getElem?_eq_none (by simpa using hl)] at h
      cases h
  · rw [List.getElem?_set_ne (Ne.symm e)] at h
    exact .inr ⟨e, h⟩
/-- an own object is frozen where it stands -/
theorem pst_here {K : PySem.W.Frag} {τ : Nat → Addr} {G H : Hp} {σ : St} {S : Sl} {i : Nat} {p : Addr} {d : D} {o : HO} (s : SlOk K τ G H σ S) (ow : OwAt σ S i p) (ho : H p = some o) (hv : vAt σ i = some (.ref p)) (hr : R K (upd G p o) d (.ref p)) :
    Pst K τ σ S G H (S.set i (.f d)) (upd G p o) H := by
  have hg : G p = none := (s.owned ⟨i, ow⟩).2
  have back : ∀ j q, OwAt σ (S.set i (.f d)) j q → OwAt σ S j q ∧ j ≠ i := fun j q ⟨sv, h1, h2⟩ => by
    rcases getElem?_set_of h1 with ⟨_, e⟩ | ⟨ne, e⟩
    · subst e; cases h2
    · exact ⟨⟨sv, e, h2⟩, ne⟩
  refine ⟨(stp_frz hg).imp fun q _ e => ⟨i, e ▸ ow⟩, ⟨by rw [List.length_set]; exact s.len, le_frz s.le ho, fun j sv e => ?_, fun j k q a b => s.ap j k q (back j q a).1 (back k q b).1⟩, fun q ⟨j, z⟩ => ⟨j, (back j q z).1⟩⟩
  rcases getElem?_set_of e with ⟨rfl, rfl⟩ | ⟨ne, e⟩
  · exact ⟨_, hv, hr⟩
  · refine (s.ok j sv e).keep (stp_frz (H := H) hg).ext fun q hq => ⟨rfl, upd_ne ?_⟩
    rintro rfl
    exact ne (s.ap j i q ⟨sv, e, hq⟩ ow)
theorem den_varF {K : PySem.W.Frag} (i : Nat) : Den K W (tVar i) (fVarF i) := by
  intro τ σ S G H s Q hq
  unfold fVarF at hq
  cases e : S[i]? with
  | none => simp only [e] at hq; exact hq.elim
  | some sv =>
    simp only [e] at hq
    have k := s.ok i sv e
    cases sv with
    | u => exact hq.elim
    | f d =>
      obtain ⟨v, h1, h2⟩ := k
      exact ⟨v, vAt_some h1, hq v G H (Pst.refl s) ⟨h2, fun _ z => nomatch z⟩⟩
    | ol t ds =>
      cases t with
      | some j => exact hq.elim
      | none =>
        obtain ⟨p, vs, h1, h2, h3, h4, _⟩ := k
        have r : R K (upd G p (.lst vs)) (.lst ds) (.ref p) := by
          simp only [R]
          exact ⟨p, vs, rfl, upd_same, RL.mono (stp_frz (H := H) h3).ext _ _ h4⟩
        refine ⟨_, vAt_some h1, hq _ _ H (pst_here s ⟨_, e, by rw [h1]; rfl⟩ h2 h1 r) ⟨r, fun _ z => nomatch z⟩⟩
    | od t ks ds =>
      cases t with
      | some j => exact hq.elim
      | none =>
        obtain ⟨p, vs, h1, h2, h3, h4, h5, _⟩ := k
        have r : R K (upd G p (.dK vs)) (.dic ks ds) (.ref p) := by
          simp only [R]
          exact ⟨p, vs, rfl, upd_same, h4, RL.mono (stp_frz (H := H) h3).ext _ _ h5⟩
        refine ⟨_, vAt_some h1, hq _ _ H (pst_here s ⟨_, e, by rw [h1]; rfl⟩ h2 h1 r) ⟨r, fun _ z => nomatch z⟩⟩
theorem de_varF (i : Nat) {x : Str} (hN : X.N[i]? = some x := by rfl) (hv : Vis X.env.scope x := by first | exact Or.inl rfl | exact Or.inr (Or.inl rfl) | exact Or.inr (Or.inr rfl)) (hd : (x == ("__debug__" : Str)) = false := by decide)
    (hcd : (x == ("__classdict__" : Str)) = false := by decide) : DE X W (.Name x pos) (fVarF i) := ⟨_, pe_var hN hv hd hcd, den_varF i⟩
/-! ### operators -/
def oI (g : Int → Int → D) (c : Int → Int → Bool) : D → D → Option RV
  | .int i, .int j => if c i j = true then some (.f (g i j)) else none
  | _, _ => none
def oI0 (g : Int → Int → D) : D → D → Option RV
  | .int i, .int j => some (.f (g i j))
  | _, _ => none
theorem RX.int {K : PySem.W.Frag} {G H : Hp} {i : Int} {v : V} (h : RX K G H (.int i) v) : v = .int i := by cases h with | f h => exact h
theorem RX.str {K : PySem.W.Frag} {G H : Hp} {i : Str} {v : V} (h : RX K G H (.str i) v) : v = .str i := by cases h with | f h => exact h
theorem RX.bl {K : PySem.W.Frag} {G H : Hp} {i : Bool} {v : V} (h : RX K G H (.bl i) v) : v = .bl i := by cases h with | f h => exact h
theorem RX.non {K : PySem.W.Frag} {G H : Hp} {v : V} (h : RX K G H .non v) : v = .non := by cases h with | f h => exact h
theorem RX.lst {K : PySem.W.Frag} {G H : Hp} {ds : List D} {v : V} (l : Le G H) (h : RX K G H (.lst ds) v) : ∃ p vs, v = .ref p ∧ H p = some (.lst vs) ∧ RL K G ds vs := by
  cases h with
  | f h =>
    simp only [R] at h
    obtain ⟨a, vs, h1, h2, h3⟩ := h
    exact ⟨a, vs, h1, l.lst h2, h3⟩
  | ol h r => exact ⟨_, _, rfl, h, r⟩
theorem RX.tup {K : PySem.W.Frag} {G H : Hp} {ds : List D} {v : V} (l : Le G H) (h : RX K G H (.tup ds) v) : ∃ p vs, v = .ref p ∧ SqT K H p vs ∧ RL K G ds vs := by
  cases h with
  | f h =>
    simp only [R] at h
    obtain ⟨a, vs, h1, h2, h3⟩ := h
    exact ⟨a, vs, h1, l.sqt h2, h3⟩
theorem RX.scr {K : PySem.W.Frag} {G H : Hp} {ns : List Int} {v : V} (l : Le G H) (h : RX K G H (.scr ns) v) : ∃ p, v = .ref p ∧ SqL K H p (ns.map V.int) := by
  cases h with
  | f h =>
    simp only [R] at h
    obtain ⟨a, h1, h2⟩ := h
    exact ⟨a, h1, l.sql h2⟩
theorem RX.dic {K : PySem.W.Frag} {G H : Hp} {ks : List Key} {ds : List D} {v : V} (l : Le G H) (h : RX K G H (.dic ks ds) v) : ∃ p ws, v = .ref p ∧ Rd H p (.dK ws) ∧ ws.map (·.1) = ks ∧ RL K G ds (ws.map (·.2)) := by
  cases h with
  | f h =>
    simp only [R] at h
    obtain ⟨a, vs, h1, h2, h3, h4⟩ := h
    exact ⟨a, vs, h1, l.rd h2, h3, h4⟩
  | od h k r => exact ⟨_, _, rfl, .inl h, k, r⟩
/-- an operation that makes nothing -/
theorem ok_val {K : PySem.W.Frag} {G H : Hp} {Q : VK} {v : V} {d : D} (l : Le G H) (r : R K G d v) (hQ : ∀ v G' H', Stp (fun _ => False) G H G' H' → Le G' H' → (∀ σ, RVOk K G' H' σ v (.f d)) → (∀ p, ra v (.f d) = some p → H p = none) → Q v H') : Q v H :=
  hQ v G H Stp.refl l (fun _ => r) fun _ e => nomatch e
theorem oo_I {K : PySem.W.Frag} {C : Int → Int → Prop} {gv : Int → Int → V} {g : Int → Int → D} {c : Int → Int → Bool} (hc : ∀ i j, c i j = true → C i j) (hg : ∀ G i j, R K G (g i j) (gv i j)) : OpOk K (rI C gv) (oI g c) := by
  intro G H x y d e o l hx hy ho Q hQ
  cases d <;> try (cases ho; done)
  cases e <;> try (cases ho; done)
  rename_i i j
  have k : (if c i j = true then some (RV.f (g i j)) else none) = some o := ho
  by_cases h : c i j = true
  · rw [if_pos h] at k
    cases k
    exact ⟨i, j, hx.int, hy.int, hc i j h, ok_val l (hg G i j) hQ⟩
  · rw [if_neg h] at k
    cases k
theorem oo_I0 {K : PySem.W.Frag} {gv : Int → Int → V} {g : Int → Int → D} (hg : ∀ G i j, R K G (g i j) (gv i j)) : OpOk K (rI0 gv) (oI0 g) := by
  intro G H x y d e o l hx hy ho Q hQ
  cases d <;> try (cases ho; done)
  cases e <;> try (cases ho; done)
  rename_i i j
  cases (show some (RV.f (g i j)) = some o from ho)
  exact ⟨i, j, hx.int, hy.int, ok_val l (hg G i j) hQ⟩
theorem de_op {op : Operator} {r : R2} {o : D → D → Option RV} (ho : OpR X (binaryOp op) r) (oo : OpOk X.K r o) (ha : DN X W a f1) (hb : DN X W b g1) : DE X W (.BinOp a op b pos) (fOp o f1 g1) :=
  let ⟨_, p1, d1⟩ := ha; let ⟨_, p2, d2⟩ := hb; ⟨_, pe_op ho p1 p2, den_op oo d1 d2⟩
theorem de_cmp {op : CmpOp} {r : R2} {o : D → D → Option RV} (ho : OpR X (compareOp op) r) (oo : OpOk X.K r o) (ha : DN X W a f1) (hb : DN X W b g1) (hm : behindInMarks op b = false := by rfl) : DE X W (.Compare a [op] [b] pos) (fOp o f1 g1) :=
  let ⟨_, p1, d1⟩ := ha; let ⟨_, p2, d2⟩ := hb; ⟨_, pe_cmpR ho p1 p2 hm, den_op oo d1 d2⟩
abbrev oAdd := oI0 fun i j => .int (i + j)
abbrev oSub := oI0 fun i j => .int (i - j)
@[irreducible] def small64 (i : Int) : Bool := decide (-(2 ^ 64) < i ∧ i < 2 ^ 64)
abbrev oMul := oI (fun i j => .int (i * j)) fun i j => small64 i || small64 j
abbrev oDiv := oI (fun i j => .int (i / j)) fun _ j => decide (0 < j ∧ j < 1073741824)
abbrev oMod := oI (fun i j => .int (i % j)) fun _ j => decide (0 < j)
abbrev oPow := oI (fun i j => .int (i ^ j.toNat)) fun i j => decide (0 ≤ j ∧ j ≤ 1000000 ∧ i.natAbs < 2 ^ 64)
abbrev oShl := oI (fun i j => .int (i * 2 ^ j.toNat)) fun i j => decide (0 ≤ j ∧ j ≤ 1000000 ∧ i.natAbs < 2 ^ 64)
abbrev oShr := oI (fun i j => .int (i / 2 ^ j.toNat)) fun _ j => decide (0 ≤ j)
abbrev oAnd := oI0 fun i j => .int (Builtin.bitAnd i j)
abbrev oOr := oI0 fun i j => .int (Builtin.bitOr i j)
theorem de_add (ha : DN X W a f1) (hb : DN X W b g1) : DE X W (.BinOp a .Add b pos) (fOp oAdd f1 g1) := de_op op_add (oo_I0 fun _ _ _ => rfl) ha hb
theorem de_sub (ha : DN X W a f1) (hb : DN X W b g1) : DE X W (.BinOp a .Sub b pos) (fOp oSub f1 g1) := de_op op_sub (oo_I0 fun _ _ _ => rfl) ha hb
theorem de_mul (ha : DN X W a f1) (hb : DN X W b g1) : DE X W (.BinOp a .Mult b pos) (fOp oMul f1 g1) := de_op op_mul (oo_I (fun i j h => by simpa [small64, CMul] using h) fun _ _ _ => rfl) ha hb
theorem de_div (ha : DN X W a f1) (hb : DN X W b g1) : DE X W (.BinOp a .FloorDiv b pos) (fOp oDiv f1 g1) := de_op op_fdiv (oo_I (fun i j h => by simpa [CDiv] using h) fun _ _ _ => rfl) ha hb
theorem de_mod (ha : DN X W a f1) (hb : DN X W b g1) : DE X W (.BinOp a .Mod b pos) (fOp oMod f1 g1) := de_op op_mod (oo_I (fun i j h => by simpa using h) fun _ _ _ => rfl) ha hb
theorem de_pow (ha : DN X W a f1) (hb : DN X W b g1) : DE X W (.BinOp a .Pow b pos) (fOp oPow f1 g1) := de_op op_pow (oo_I (fun i j h => by simpa [CPow] using h) fun _ _ _ => rfl) ha hb
theorem de_shl (ha : DN X W a f1) (hb : DN X W b g1) : DE X W (.BinOp a .LShift b pos) (fOp oShl f1 g1) := de_op op_shl (oo_I (fun i j h => by simpa [CPow] using h) fun _ _ _ => rfl) ha hb
theorem de_shr (ha : DN X W a f1) (hb : DN X W b g1) : DE X W (.BinOp a .RShift b pos) (fOp oShr f1 g1) := de_op op_shr (oo_I (fun i j h => by simpa using h) fun _ _ _ => rfl) ha hb
theorem de_and_ (ha : DN X W a f1) (hb : DN X W b g1) : DE X W (.BinOp a .BitAnd b pos) (fOp oAnd f1 g1) := de_op op_and (oo_I0 fun _ _ _ => rfl) ha hb
theorem de_or_ (ha : DN X W a f1) (hb : DN X W b g1) : DE X W (.BinOp a .BitOr b pos) (fOp oOr f1 g1) := de_op op_or (oo_I0 fun _ _ _ => rfl) ha hb
abbrev oLt := oI0 fun i j => .bl (decide (i < j))
abbrev oLe := oI0 fun i j => .bl (decide (i ≤ j))
abbrev oGt := oI0 fun i j => .bl (decide (j < i))
abbrev oGe := oI0 fun i j => .bl (decide (j ≤ i))
theorem de_lt (ha : DN X W a f1) (hb : DN X W b g1) (hm : behindInMarks .Lt b = false := by rfl) : DE X W (.Compare a [.Lt] [b] pos) (fOp oLt f1 g1) := de_cmp op_lt (oo_I0 fun _ _ _ => rfl) ha hb hm
theorem de_le (ha : DN X W a f1) (hb : DN X W b g1) (hm : behindInMarks .LtE b = false := by rfl) : DE X W (.Compare a [.LtE] [b] pos) (fOp oLe f1 g1) := de_cmp op_le (oo_I0 fun _ _ _ => rfl) ha hb hm
theorem de_gt (ha : DN X W a f1) (hb : DN X W b g1) (hm : behindInMarks .Gt b = false := by rfl) : DE X W (.Compare a [.Gt] [b] pos) (fOp oGt f1 g1) := de_cmp op_gt (oo_I0 fun _ _ _ => rfl) ha hb hm
theorem de_ge (ha : DN X W a f1) (hb : DN X W b g1) (hm : behindInMarks .GtE b = false := by rfl) : DE X W (.Compare a [.GtE] [b] pos) (fOp oGe f1 g1) := de_cmp op_ge (oo_I0 fun _ _ _ => rfl) ha hb hm
/-! == and != of data -/
mutual
def py : D → Option PyData
  | .non => some .none
  | .bl b => some (.bool b)
  | .int i => some (.int i)
  | .str x => some (.str x)
  | .lst ds => (pyL ds).map .list
  | .tup ds => (pyL ds).map .tuple
  | _ => none
def pyL : List D → Option (List PyData)
  | [] => some []
  | d :: ds => (py d).bind fun p => (pyL ds).map (p :: ·)
end
mutual
theorem dp_of {K : PySem.W.Frag} {G H : Hp} (l : Le G H) : ∀ (d : D) (v : V) (p : PyData), R K G d v → py d = some p → Dp K H v p
  | .non, v, p, h, e => by cases (show v = .non from h); cases (show some PyData.none = some p from by simpa only [py] using e); exact .non
  | .bl b, v, p, h, e => by cases (show v = .bl b from h); cases (show some (PyData.bool b) = some p from by simpa only [py] using e); exact .bl b
  | .int b, v, p, h, e => by cases (show v = .int b from h); cases (show some (PyData.int b) = some p from by simpa only [py] using e); exact .int b
  | .str b, v, p, h, e => by cases (show v = .str b from h); cases (show some (PyData.str b) = some p from by simpa only [py] using e); exact .str b
  | .lst ds, v, p, h, e => by
    simp only [R] at h
    obtain ⟨a, vs, rfl, h2, h3⟩ := h
    simp only [py] at e
    cases q : pyL ds with
    | none => rw [q] at e; cases e
    | some ps =>
      rw [q] at e
      cases e
      exact .lst (SqL.of (l.lst h2)) (dpL_of l ds vs ps h3 q)
  | .tup ds, v, p, h, e => by
    simp only [R] at h
    obtain ⟨a, vs, rfl, h2, h3⟩ := h
    simp only [py] at e
    cases q : pyL ds with
    | none => rw [q] at e; cases e
    | some ps =>
      rw [q] at e
      cases e
      exact .tup (l.sqt h2) (dpL_of l ds vs ps h3 q)
  | .ref _, _, _, _, e | .ty _, _, _, _, e | .dic _ _, _, _, _, e | .ins _ _ _, _, _, _, e | .scr _, _, _, _, e | .xob _ _ _, _, _, _, e => by simp only [py] at e; cases e
theorem dpL_of {K : PySem.W.Frag} {G H : Hp} (l : Le G H) : ∀ (ds : List D) (vs : List V) (ps : List PyData), RL K G ds vs → pyL ds = some ps → DpAll K H vs ps
  | [], vs, ps, h, e => by
    simp only [RL, R.RL] at h
    subst h
    simp only [pyL] at e
    cases e
    exact .nil
  | d :: ds, vs, ps, h, e => by
    simp only [RL, R.RL] at h
    obtain ⟨v, r, rfl, h2, h3⟩ := h
    simp only [pyL] at e
    cases q : py d with
    | none => rw [q] at e; cases e
    | some p =>
      rw [q] at e
      cases q2 : pyL ds with
      | none => rw [q2] at e; cases e
      | some ps' =>
        rw [q2] at e
        cases e
        exact .cons (dp_of l d v p h2 q) (dpL_of l ds r ps' h3 q2)
end
theorem dpx_of {K : PySem.W.Frag} {G H : Hp} (l : Le G H) {d : D} {v : V} {p : PyData} (h : RX K G H d v) (e : py d = some p) : Dp K H v p := by
  cases h with
  | f h => exact dp_of l _ _ _ h e
  | ol h r =>
    simp only [py] at e
    rename_i ds a vs
    cases q : pyL ds with
    | none => rw [q] at e; cases e
    | some ps =>
      rw [q] at e
      cases e
      exact .lst (SqL.of h) (dpL_of l _ _ _ r q)
  | od h k r => simp only [py] at e; cases e
def eqD0 (neg : Bool) (d e : D) : Option RV := match py d, py e with
  | some p, some q => if SeqAt.shaped p = true ∧ SeqAt.shaped q = true then some (.f (.bl (if neg = true then !PyData.eqv p q else PyData.eqv p q))) else none
  | _, _ => none
theorem oo_eqD0 {K : PySem.W.Frag} : OpOk K (rEqD K) (eqD0 false) := by
  intro G H x y d e o l hx hy ho Q hQ
  unfold eqD0 at ho
  cases e1 : py d with
  | none => simp only [e1] at ho; cases ho
  | some p =>
    cases e2 : py e with
    | none => simp only [e1, e2] at ho; cases ho
    | some q =>
      simp only [e1, e2] at ho
      by_cases h : SeqAt.shaped p = true ∧ SeqAt.shaped q = true
      · rw [if_pos h] at ho
        cases ho
        exact ⟨p, q, dpx_of l hx e1, dpx_of l hy e2, h.1, h.2, ok_val l (d := .bl (PyData.eqv p q)) rfl hQ⟩
      · rw [if_neg h] at ho
        cases ho
theorem oo_neD0 {K : PySem.W.Frag} : OpOk K (rNeD K) (eqD0 true) := by
  intro G H x y d e o l hx hy ho Q hQ
  unfold eqD0 at ho
  cases e1 : py d with
  | none => simp only [e1] at ho; cases ho
  | some p =>
    cases e2 : py e with
    | none => simp only [e1, e2] at ho; cases ho
    | some q =>
      simp only [e1, e2] at ho
      by_cases h : SeqAt.shaped p = true ∧ SeqAt.shaped q = true
      · rw [if_pos h] at ho
        cases ho
        exact ⟨p, q, dpx_of l hx e1, dpx_of l hy e2, h.1, h.2, ok_val l (d := .bl (!PyData.eqv p q)) rfl hQ⟩
      · rw [if_neg h] at ho
        cases ho
/-- the plain scalars -/
def sc : D → Option V
  | .non => some .non
  | .bl b => some (.bl b)
  | .int i => some (.int i)
  | .str x => some (.str x)
  | _ => none
theorem sc_ok {K : PySem.W.Frag} {G H : Hp} {d : D} {x v : V} (h : RX K G H d v) (e : sc d = some x) : v = x := by
  cases d <;> simp only [sc] at e <;> cases e
  · exact h.non
  · exact h.bl
  · exact h.int
  · exact h.str
def eqD (neg : Bool) (d e : D) : Option RV := match sc d, sc e with
  | some x, some y => if scal x y = true then some (.f (.bl (if neg = true then !decide (x = y) else decide (x = y)))) else eqD0 neg d e
  | _, _ => eqD0 neg d e
theorem eqD_cases {neg : Bool} {d e : D} {o : RV} (h : eqD neg d e = some o) : (∃ x y, sc d = some x ∧ sc e = some y ∧ scal x y = true ∧ o = .f (.bl (if neg = true then !decide (x = y) else decide (x = y)))) ∨ eqD0 neg d e = some o := by
  unfold eqD at h
  cases e1 : sc d with
  | none => simp only [e1] at h; exact .inr h
  | some x =>
    cases e2 : sc e with
    | none => simp only [e1, e2] at h; exact .inr h
    | some y =>
      simp only [e1, e2] at h
      by_cases hs : scal x y = true
      · rw [if_pos hs] at h
        cases h
        exact .inl ⟨x, y, rfl, rfl, hs, rfl⟩
      · rw [if_neg hs] at h
        exact .inr h
theorem oo_eqD {K : PySem.W.Frag} : OpOk K (fun x y H Q => rEq x y H Q ∨ rEqD K x y H Q) (eqD false) := by
  intro G H x y d e o l hx hy ho Q hQ
  rcases eqD_cases ho with ⟨u, w, e1, e2, hs, rfl⟩ | h
  · cases sc_ok hx e1
    cases sc_ok hy e2
    exact .inl ⟨hs, ok_val l (d := .bl _) rfl hQ⟩
  · exact .inr (oo_eqD0 G H x y d e o l hx hy h Q hQ)
theorem oo_neD {K : PySem.W.Frag} : OpOk K (fun x y H Q => rNe x y H Q ∨ rNeD K x y H Q) (eqD true) := by
  intro G H x y d e o l hx hy ho Q hQ
  rcases eqD_cases ho with ⟨u, w, e1, e2, hs, rfl⟩ | h
  · cases sc_ok hx e1
    cases sc_ok hy e2
    exact .inl ⟨hs, ok_val l (d := .bl _) rfl hQ⟩
  · exact .inr (oo_neD0 G H x y d e o l hx hy h Q hQ)
theorem de_eq {k : Nat} (cg : Cg X.A k) (ha : DN X W a f1) (hb : DN X W b g1) (hm : behindInMarks .Eq b = false := by rfl) : DE X W (.Compare a [.Eq] [b] pos) (fOp (eqD false) f1 g1) := de_cmp (op_eq.or (op_eqD cg.room.units)) oo_eqD ha hb hm
theorem de_ne {k : Nat} (cg : Cg X.A k) (ha : DN X W a f1) (hb : DN X W b g1) (hm : behindInMarks .NotEq b = false := by rfl) : DE X W (.Compare a [.NotEq] [b] pos) (fOp (eqD true) f1 g1) := de_cmp (op_ne.or (op_neD cg.room.units)) oo_neD ha hb hm
/-- is None, is not None -/
def nonD : D → Bool
  | .non => true
  | _ => false
def isN (neg : Bool) (d e : D) : Option RV := match e with
  | .non => some (.f (.bl (if neg = true then !nonD d else nonD d)))
  | _ => none
theorem R.nonIff {K : PySem.W.Frag} {G : Hp} {d : D} {v : V} (h : R K G d v) : decide (v = .non) = nonD d := by
  cases d <;> simp only [R] at h
  all_goals first | (subst h; rfl) | (obtain ⟨_, _, rfl, _⟩ := h; rfl) | (obtain ⟨_, rfl, _⟩ := h; rfl) | (obtain ⟨_, _, _, rfl, _⟩ := h; rfl)
theorem RX.nonIff {K : PySem.W.Frag} {G H : Hp} {d : D} {v : V} (h : RX K G H d v) : decide (v = .non) = nonD d := by
  cases h with
  | f h => exact h.nonIff
  | ol h r => rfl
  | od h k r => rfl
theorem oo_isN {K : PySem.W.Frag} : OpOk K (fun x y H Q => y = .non ∧ Q (.bl (decide (x = .non))) H) (isN false) := by
  intro G H x y d e o l hx hy ho Q hQ
  cases e <;> try (cases ho; done)
  cases (show some (RV.f (.bl (nonD d))) = some o from ho)
  refine ⟨hy.non, ?_⟩
  rw [hx.nonIff]
  exact ok_val (d := .bl (nonD d)) l rfl hQ
theorem oo_notN {K : PySem.W.Frag} : OpOk K (fun x y H Q => y = .non ∧ Q (.bl (!decide (x = .non))) H) (isN true) := by
  intro G H x y d e o l hx hy ho Q hQ
  cases e <;> try (cases ho; done)
  cases (show some (RV.f (.bl (!nonD d))) = some o from ho)
  refine ⟨hy.non, ?_⟩
  rw [hx.nonIff]
  exact ok_val (d := .bl (!nonD d)) l rfl hQ
theorem de_isN (ha : DN X W a f1) (hb : DN X W b g1) (hm : behindInMarks .Is b = false := by rfl) : DE X W (.Compare a [.Is] [b] pos) (fOp (isN false) f1 g1) := de_cmp op_isN oo_isN ha hb hm
theorem de_notN (ha : DN X W a f1) (hb : DN X W b g1) (hm : behindInMarks .IsNot b = false := by rfl) : DE X W (.Compare a [.IsNot] [b] pos) (fOp (isN true) f1 g1) := de_cmp op_notN oo_notN ha hb hm
end
end DL
set_option Elab.async false
set_option linter.all false
set_option maxRecDepth 100000
set_option maxHeartbeats 4000000
/-! DL3: tests, arguments, displays, subscripts, slices, calls of built-ins. -/
namespace DL
open PySem L2
section
variable {X : Cx} {W : WX'} {e a b c : Expr} {es : List Expr} {f g h : Sl → Rs RV} {f1 g1 h1 : Sl → Rs NV} {fb gb : Sl → Rs Bool} {pos : Pos} {K : PySem.W.Frag}
/-- the common turn: behind a first piece, its result and what is left -/
theorem Gd.cases {α β γ δ : Type} {ok1 : Okk α β} {ok2 : Okk γ δ} {t : St → Hp → (β → Hp → Prop) → Prop} {f : Sl → Rs α} {τ : Nat → Addr} {σ : St} {S : Sl} {G H : Hp} {k : α → Sl → Rs γ} {Q : δ → Hp → Prop} {Q1 : β → Hp → Prop}
    (bk : Bk ok2) (hf : Dn ok1 K W t f) (s : SlOk K τ G H σ S) (hq : Gd (ok2 K σ) K W τ σ S G H ((f S).bind k) Q)
    (hk : ∀ x a S1 G1 H1, SlOk K τ G1 H1 σ S1 → Pst K τ σ S G H S1 G1 H1 → ok1 K σ H G1 H1 x a → Gd (ok2 K σ) K W τ σ S1 G1 H1 (k a S1) Q → Q1 x H1) : t σ H Q1 := by
  refine hf τ σ S G H s _ ?_
  cases e : f S with
  | ok a S1 =>
    simp only [e, Rs.bind_ok] at hq
    exact fun x G1 H1 P o => hk x a S1 G1 H1 P.sl P o (hq.back bk P)
  | ex x S1 =>
    simp only [e, Rs.bind_ex] at hq
    exact hq
  | no =>
    simp only [e, Rs.bind_no] at hq
    exact hq
/-! ### tests -/
def bOf (n : NV) (S : Sl) : Rs Bool := match n with
  | .f (.bl b) => .ok b S
  | _ => .no
def fB (f : Sl → Rs NV) : Sl → Rs Bool := fun S => (f S).bind bOf
theorem den_B {t : TE} (hf : DenN K W t f1) : DenT K W (tB t) (fB f1) := fun τ σ S G H s Q hq =>
  Gd.cases (Q1 := fun (x : V) H1 => ∃ c, x = V.bl c ∧ Q c H1) bkB hf s hq fun x n S1 G1 H1 s1 P o q => by
    cases n with
    | bo i => exact q.elim
    | f d =>
      cases d <;> try exact q.elim
      rename_i b
      exact ⟨b, o, q b G1 H1 (Pst.refl s1) rfl⟩
theorem dt_val (d : DN X W e f1) (he : ∀ whole, isTrue e X.env whole = (do let v ← whole; standAt e.pos; holding [v] (truthy v)) := by intro _; rfl) : DT X W e (fB f1) := let ⟨_, p, q⟩ := d; ⟨_, pt_val p he, den_B q⟩
def fAnd (f g : Sl → Rs Bool) : Sl → Rs Bool := fun S => (f S).bind fun b S1 => if b = true then g S1 else .ok false S1
def fOr (f g : Sl → Rs Bool) : Sl → Rs Bool := fun S => (f S).bind fun b S1 => if b = true then .ok true S1 else g S1
def fNot (f : Sl → Rs Bool) : Sl → Rs Bool := fun S => (f S).bind fun b S1 => .ok (!b) S1
theorem den_and {t u : TT} (hf : DenT K W t fb) (hg : DenT K W u gb) : DenT K W (tAnd t u) (fAnd fb gb) := fun τ σ S G H s Q hq =>
  Gd.cases (Q1 := fun c H1 => if c = true then u σ H1 Q else Q false H1) bkB hf s hq fun x b S1 G1 H1 s1 P o q => by
    cases (show x = b from o)
    cases x with
    | true => exact hg τ σ S1 G1 H1 s1 Q q
    | false => exact q false G1 H1 (Pst.refl s1) rfl
theorem den_or {t u : TT} (hf : DenT K W t fb) (hg : DenT K W u gb) : DenT K W (tOr t u) (fOr fb gb) := fun τ σ S G H s Q hq =>
  Gd.cases (Q1 := fun c H1 => if c = true then Q true H1 else u σ H1 Q) bkB hf s hq fun x b S1 G1 H1 s1 P o q => by
    cases (show x = b from o)
    cases x with
    | true => exact q true G1 H1 (Pst.refl s1) rfl
    | false => exact hg τ σ S1 G1 H1 s1 Q q
theorem den_not {t : TT} (hf : DenT K W t fb) : DenT K W (tNot t) (fNot fb) := fun τ σ S G H s Q hq =>
  Gd.cases (Q1 := fun c H1 => Q (!c) H1) bkB hf s hq fun x b S1 G1 H1 s1 P o q => by
    cases (show x = b from o)
    exact q _ G1 H1 (Pst.refl s1) rfl
theorem dw_and1 (ha : DT X W a fb) : DW X W (.BoolOp .And [a] pos) fb := let ⟨_, p, q⟩ := ha; ⟨_, pw_and1 p, q⟩
theorem dw_or1 (ha : DT X W a fb) : DW X W (.BoolOp .Or [a] pos) fb := let ⟨_, p, q⟩ := ha; ⟨_, pw_or1 p, q⟩
theorem dw_and {rest : List Expr} (ha : DT X W a fb) (hb : DW X W (.BoolOp .And (b :: rest) pos) gb) : DW X W (.BoolOp .And (a :: b :: rest) pos) (fAnd fb gb) :=
  let ⟨_, p, q⟩ := ha; let ⟨_, p', q'⟩ := hb; ⟨_, pw_and p p', den_and q q'⟩
theorem dw_or {rest : List Expr} (ha : DT X W a fb) (hb : DW X W (.BoolOp .Or (b :: rest) pos) gb) : DW X W (.BoolOp .Or (a :: b :: rest) pos) (fOr fb gb) :=
  let ⟨_, p, q⟩ := ha; let ⟨_, p', q'⟩ := hb; ⟨_, pw_or p p', den_or q q'⟩
theorem DW.t (d : DW X W e fb) : DT X W e fb := let ⟨_, p, q⟩ := d; ⟨_, p.pt, q⟩
theorem dt_not (ha : DT X W a fb) : DT X W (.UnaryOp .Not a pos) (fNot fb) := let ⟨_, p, q⟩ := ha; ⟨_, pt_not p, den_not q⟩
/-! ### the same as values -/
def fAndV (f : Sl → Rs NV) (g : Sl → Rs RV) : Sl → Rs RV := fun S => (f S).bind fun n S1 => (bOf n S1).bind fun b S2 => if b = true then g S2 else .ok (.f (.bl false)) S2
def fOrV (f : Sl → Rs NV) (g : Sl → Rs RV) : Sl → Rs RV := fun S => (f S).bind fun n S1 => (bOf n S1).bind fun b S2 => if b = true then .ok (.f (.bl true)) S2 else g S2
def fNotV (f : Sl → Rs NV) : Sl → Rs RV := fun S => (f S).bind fun n S1 => (bOf n S1).bind fun b S2 => .ok (.f (.bl !b)) S2
theorem okr_bl {H : Hp} {G H' : Hp} {σ : St} {b : Bool} : okR K σ H G H' (.bl b) (.f (.bl b)) := ⟨rfl, fun _ z => nomatch z⟩
theorem den_andV {ta tb : TE} (hf : DenN K W ta f1) (hg : Den K W tb g) : Den K W (tAndV ta tb) (fAndV f1 g) := fun τ σ S G H s Q hq =>
  Gd.cases (Q1 := fun (x : V) H1 => ∃ c, x = V.bl c ∧ if c = true then tb σ H1 Q else Q (.bl false) H1) bkR hf s hq fun x n S1 G1 H1 s1 P o q => by
    cases n with
    | bo i => exact q.elim
    | f d =>
      cases d <;> try exact q.elim
      rename_i b
      refine ⟨b, o, ?_⟩
      cases b with
      | true => exact hg τ σ S1 G1 H1 s1 Q q
      | false => exact q _ G1 H1 (Pst.refl s1) okr_bl
theorem den_orV {ta tb : TE} (hf : DenN K W ta f1) (hg : Den K W tb g) : Den K W (tOrV ta tb) (fOrV f1 g) := fun τ σ S G H s Q hq =>
  Gd.cases (Q1 := fun (x : V) H1 => ∃ c, x = V.bl c ∧ if c = true then Q (.bl true) H1 else tb σ H1 Q) bkR hf s hq fun x n S1 G1 H1 s1 P o q => by
    cases n with
    | bo i => exact q.elim
    | f d =>
      cases d <;> try exact q.elim
      rename_i b
      refine ⟨b, o, ?_⟩
      cases b with
      | true => exact q _ G1 H1 (Pst.refl s1) okr_bl
      | false => exact hg τ σ S1 G1 H1 s1 Q q
theorem den_notV {ta : TE} (hf : DenN K W ta f1) : Den K W (tNotV ta) (fNotV f1) := fun τ σ S G H s Q hq =>
  Gd.cases (Q1 := fun (x : V) H1 => ∃ c, x = V.bl c ∧ Q (.bl (!c)) H1) bkR hf s hq fun x n S1 G1 H1 s1 P o q => by
    cases n with
    | bo i => exact q.elim
    | f d =>
      cases d <;> try exact q.elim
      rename_i b
      exact ⟨b, o, q _ G1 H1 (Pst.refl s1) okr_bl⟩
theorem de_one {op} (ha : DE X W a f) : DE X W (.BoolOp op [a] pos) f := let ⟨_, p, q⟩ := ha; ⟨_, pe_one p, q⟩
theorem de_and {rest : List Expr} (ha : DN X W a f1) (hb : DE X W (.BoolOp .And (b :: rest) pos) g) : DE X W (.BoolOp .And (a :: b :: rest) pos) (fAndV f1 g) := let ⟨_, p, q⟩ := ha; let ⟨_, p', q'⟩ := hb; ⟨_, pe_and p p', den_andV q q'⟩
theorem de_or {rest : List Expr} (ha : DN X W a f1) (hb : DE X W (.BoolOp .Or (b :: rest) pos) g) : DE X W (.BoolOp .Or (a :: b :: rest) pos) (fOrV f1 g) := let ⟨_, p, q⟩ := ha; let ⟨_, p', q'⟩ := hb; ⟨_, pe_or p p', den_orV q q'⟩
theorem de_not (ha : DN X W a f1) : DE X W (.UnaryOp .Not a pos) (fNotV f1) := let ⟨_, p, q⟩ := ha; ⟨_, pe_not p, den_notV q⟩
def fIf (c : Sl → Rs Bool) (f g : Sl → Rs RV) : Sl → Rs RV := fun S => (c S).bind fun b S1 => if b = true then f S1 else g S1
theorem de_if (hc : DT X W c fb) (ha : DE X W a f) (hb : DE X W b g) : DE X W (.IfExp c a b pos) (fIf fb f g) := by
  obtain ⟨tc, p, q⟩ := hc
  obtain ⟨ta, p1, q1⟩ := ha
  obtain ⟨tb, p2, q2⟩ := hb
  refine ⟨_, pe_ifExp p p1 p2, fun τ σ S G H s Q hq => Gd.cases (Q1 := fun c H1 => if c = true then ta σ H1 Q else tb σ H1 Q) bkR q s hq fun x b S1 G1 H1 s1 P o r => ?_⟩
  cases (show x = b from o)
  cases x with
  | true => exact q1 τ σ S1 G1 H1 s1 Q r
  | false => exact q2 τ σ S1 G1 H1 s1 Q r
/-- a < b < c -/
def fChain (o o' : D → D → Option RV) (f g h : Sl → Rs NV) : Sl → Rs RV := fun S => (f S).bind fun a S1 => (g S1).bind fun b S2 => (lift2 o a b S2).bind fun r S3 => (bOf r.frz S3).bind fun k S4 =>
  if k = true then (h S4).bind fun c S5 => lift2 o' b c S5 else .ok (.f (.bl false)) S4
theorem den_lift2 {r : R2} {o : D → D → Option RV} (oo : OpOk K r o) {τ : Nat → Addr} {G H : Hp} {σ : St} {S : Sl} {x y : V} {a b : NV} {Q : VK} (s : SlOk K τ G H σ S) (oa : NVOk K G σ x a) (ob : NVOk K G σ y b) (hq : Gd (okR K σ) K W τ σ S G H (lift2 o a b S) Q) :
    r x y H Q := by
  unfold lift2 at hq
  cases ea : view S a with
  | none => simp only [ea] at hq; exact hq.elim
  | some d =>
    cases eb : view S b with
    | none => simp only [ea, eb] at hq; exact hq.elim
    | some d' =>
      cases eo : o d d' with
      | none => simp only [ea, eb, eo] at hq; exact hq.elim
      | some v =>
        simp only [ea, eb, eo] at hq
        exact oo G H x y d d' v s.le (view_ok s oa ea) (view_ok s ob eb) eo Q fun v G' H' st l r fr => hq v G' H' (Pst.new s st l) ⟨r σ, fr⟩
theorem den_chain {r r' : R2} {o o' : D → D → Option RV} {ta tb tc : TE} (oo : OpOk K r o) (oo' : OpOk K r' o') (q : DenN K W ta f1) (q1 : DenN K W tb g1) (q2 : DenN K W tc h1) : Den K W (tChain r r' ta tb tc) (fChain o o' f1 g1 h1) := by
  intro τ σ S G H s Q hq
  refine Gd.cases (Q1 := fun x H1 => tb σ H1 fun y H2 => r x y H2 fun z H3 => ∃ k, z = .bl k ∧ (if k = true then tc σ H3 fun w' H4 => r' y w' H4 Q else Q (.bl false) H3)) bkR q s hq fun x a S1 G1 H1 s1 P oa hq1 => ?_
  refine Gd.cases (Q1 := fun y H2 => r x y H2 fun z H3 => ∃ k, z = .bl k ∧ (if k = true then tc σ H3 fun w' H4 => r' y w' H4 Q else Q (.bl false) H3)) bkR q1 s1 hq1 fun y b S2 G2 H2 s2 P2 ob hq2 => ?_
  have oa2 := NVOk.mono oa P2.st.ext
  refine den_lift2 (W := W) oo s2 oa2 ob ?_
  cases e : lift2 o a b S2 with
  | no => simp only [e, Rs.bind_no] at hq2; exact hq2.elim
  | ex x S3 => simp only [e, Rs.bind_ex] at hq2; exact hq2
  | ok rr S3 =>
    simp only [e, Rs.bind_ok] at hq2
    intro v G3 H3 P3 o3
    have hq3 := hq2.back bkR P3
    cases rr with
    | bo i => exact hq3.elim
    | ol ds => exact hq3.elim
    | od ks ds => exact hq3.elim
    | f d =>
      cases d <;> try exact hq3.elim
      rename_i k
      refine ⟨k, o3.1, ?_⟩
      cases k with
      | false => exact hq3 _ G3 H3 (Pst.refl P3.sl) okr_bl
      | true =>
        have ob3 := NVOk.mono ob P3.st.ext
        refine Gd.cases (Q1 := fun w' H4 => r' y w' H4 Q) bkR q2 P3.sl hq3 fun z c S5 G5 H5 s5 P5 oc hq5 => ?_
        exact den_lift2 (W := W) oo' s5 (NVOk.mono ob3 P5.st.ext) oc hq5
theorem de_chain {op op' : CmpOp} {r r' : R2} {o o' : D → D → Option RV} (ho : OpR X (compareOp op) r) (ho' : OpR X (compareOp op') r') (oo : OpOk X.K r o) (oo' : OpOk X.K r' o') (ha : DN X W a f1) (hb : DN X W b g1) (hc : DN X W c h1)
    (hm : lastMarks [op, op'] [b, c] = false := by with_unfolding_all rfl) : DE X W (.Compare a [op, op'] [b, c] pos) (fChain o o' f1 g1 h1) :=
  let ⟨_, p, q⟩ := ha; let ⟨_, p1, q1⟩ := hb; let ⟨_, p2, q2⟩ := hc; ⟨_, pe_chain ho ho' p p1 p2 hm, den_chain oo oo' q q1 q2⟩
theorem dt_chain {op op' : CmpOp} {r r' : R2} {o o' : D → D → Option RV} (ho : OpR X (compareOp op) r) (ho' : OpR X (compareOp op') r') (oo : OpOk X.K r o) (oo' : OpOk X.K r' o') (ha : DN X W a f1) (hb : DN X W b g1) (hc : DN X W c h1)
    (hm : lastMarks [op, op'] [b, c] = false := by with_unfolding_all rfl) : DT X W (.Compare a [op, op'] [b, c] pos) (fB (frz (fChain o o' f1 g1 h1))) :=
  let ⟨_, p, q⟩ := ha; let ⟨_, p1, q1⟩ := hb; let ⟨_, p2, q2⟩ := hc; ⟨_, pt_chain ho ho' p p1 p2 hm, den_B (den_frz (den_chain oo oo' q q1 q2))⟩
theorem de_ltlt (ha : DN X W a f1) (hb : DN X W b g1) (hc : DN X W c h1) (hm : lastMarks [.Lt, .Lt] [b, c] = false := by with_unfolding_all rfl) : DE X W (.Compare a [.Lt, .Lt] [b, c] pos) (fChain oLt oLt f1 g1 h1) :=
  de_chain op_lt op_lt (oo_I0 fun _ _ _ => rfl) (oo_I0 fun _ _ _ => rfl) ha hb hc hm
theorem de_lele (ha : DN X W a f1) (hb : DN X W b g1) (hc : DN X W c h1) (hm : lastMarks [.LtE, .LtE] [b, c] = false := by with_unfolding_all rfl) : DE X W (.Compare a [.LtE, .LtE] [b, c] pos) (fChain oLe oLe f1 g1 h1) :=
  de_chain op_le op_le (oo_I0 fun _ _ _ => rfl) (oo_I0 fun _ _ _ => rfl) ha hb hc hm
theorem de_lelt (ha : DN X W a f1) (hb : DN X W b g1) (hc : DN X W c h1) (hm : lastMarks [.LtE, .Lt] [b, c] = false := by with_unfolding_all rfl) : DE X W (.Compare a [.LtE, .Lt] [b, c] pos) (fChain oLe oLt f1 g1 h1) :=
  de_chain op_le op_lt (oo_I0 fun _ _ _ => rfl) (oo_I0 fun _ _ _ => rfl) ha hb hc hm
theorem de_ltle (ha : DN X W a f1) (hb : DN X W b g1) (hc : DN X W c h1) (hm : lastMarks [.Lt, .LtE] [b, c] = false := by with_unfolding_all rfl) : DE X W (.Compare a [.Lt, .LtE] [b, c] pos) (fChain oLt oLe f1 g1 h1) :=
  de_chain op_lt op_le (oo_I0 fun _ _ _ => rfl) (oo_I0 fun _ _ _ => rfl) ha hb hc hm
theorem dt_ltlt (ha : DN X W a f1) (hb : DN X W b g1) (hc : DN X W c h1) (hm : lastMarks [.Lt, .Lt] [b, c] = false := by with_unfolding_all rfl) : DT X W (.Compare a [.Lt, .Lt] [b, c] pos) (fB (frz (fChain oLt oLt f1 g1 h1))) :=
  dt_chain op_lt op_lt (oo_I0 fun _ _ _ => rfl) (oo_I0 fun _ _ _ => rfl) ha hb hc hm
theorem dt_lele (ha : DN X W a f1) (hb : DN X W b g1) (hc : DN X W c h1) (hm : lastMarks [.LtE, .LtE] [b, c] = false := by with_unfolding_all rfl) : DT X W (.Compare a [.LtE, .LtE] [b, c] pos) (fB (frz (fChain oLe oLe f1 g1 h1))) :=
  dt_chain op_le op_le (oo_I0 fun _ _ _ => rfl) (oo_I0 fun _ _ _ => rfl) ha hb hc hm
theorem dt_lelt (ha : DN X W a f1) (hb : DN X W b g1) (hc : DN X W c h1) (hm : lastMarks [.LtE, .Lt] [b, c] = false := by with_unfolding_all rfl) : DT X W (.Compare a [.LtE, .Lt] [b, c] pos) (fB (frz (fChain oLe oLt f1 g1 h1))) :=
  dt_chain op_le op_lt (oo_I0 fun _ _ _ => rfl) (oo_I0 fun _ _ _ => rfl) ha hb hc hm
theorem dt_ltle (ha : DN X W a f1) (hb : DN X W b g1) (hc : DN X W c h1) (hm : lastMarks [.Lt, .LtE] [b, c] = false := by with_unfolding_all rfl) : DT X W (.Compare a [.Lt, .LtE] [b, c] pos) (fB (frz (fChain oLt oLe f1 g1 h1))) :=
  dt_chain op_lt op_le (oo_I0 fun _ _ _ => rfl) (oo_I0 fun _ _ _ => rfl) ha hb hc hm
/-! ### arguments -/
def fNil : Sl → Rs (List NV) := fun S => .ok [] S
def fCons (f : Sl → Rs NV) (g : Sl → Rs (List NV)) : Sl → Rs (List NV) := fun S => (f S).bind fun n S1 => (g S1).bind fun ns S2 => .ok (n :: ns) S2
theorem Paired.mono' {α β : Type} {P Q : α → β → Prop} (h : ∀ a b, P a b → Q a b) : ∀ {xs : List α} {ys : List β}, Paired P xs ys → Paired Q xs ys
  | _, _, .nil => .nil
  | _, _, .cons r t => .cons (h _ _ r) (Paired.mono' h t)
theorem da_nil : DA X W [] fNil := ⟨_, pa_nil, fun τ σ S G H s Q hq => hq [] G H (Pst.refl s) .nil, fun S ns S' e => by cases e; rfl⟩
theorem da_cons {fa : Sl → Rs (List NV)} (ha : DN X W e f1) (hb : DA X W es fa) (hs : starEach (e :: es) X.env = (false, eval e X.env) :: starEach es X.env := by rfl) : DA X W (e :: es) (fCons f1 fa) := by
  obtain ⟨ta, p, q⟩ := ha
  obtain ⟨tr, p1, q1, ln⟩ := hb
  refine ⟨_, pa_cons p p1 hs, fun τ σ S G H s Q hq => ?_, fun S ns S' e => ?_⟩
  rotate_left
  · unfold fCons at e
    cases e1 : f1 S with
    | no => rw [e1] at e; cases e
    | ex x S1 => rw [e1] at e; cases e
    | ok n S1 =>
      rw [e1, Rs.bind_ok] at e
      cases e2 : fa S1 with
      | no => rw [e2] at e; cases e
      | ex x S1 => rw [e2] at e; cases e
      | ok ns S2 =>
        rw [e2] at e
        cases e
        show ns.length + 1 = es.length + 1
        rw [ln _ _ _ e2]
  refine Gd.cases (Q1 := fun x H1 => tr σ H1 fun xs H2 => Q (x :: xs) H2) bkA q s hq fun x a S1 G1 H1 s1 P oa hq1 => ?_
  refine Gd.cases (Q1 := fun xs H2 => Q (x :: xs) H2) bkA q1 s1 hq1 fun xs as S2 G2 H2 s2 P2 oas hq2 => ?_
  exact hq2 _ G2 H2 (Pst.refl s2) (.cons (NVOk.mono oa P2.st.ext) oas)
def dOf : NV → Option D
  | .f d => some d
  | .bo _ => none
def dsOf : List NV → Option (List D)
  | [] => some []
  | n :: ns => (dOf n).bind fun d => (dsOf ns).map (d :: ·)
theorem dsOf_ok {G : Hp} {σ : St} : ∀ {vs : List V} {ns : List NV} {ds : List D}, Paired (NVOk K G σ) vs ns → dsOf ns = some ds → RL K G ds vs
  | _, _, ds, .nil, e => by
    simp only [dsOf] at e
    cases e
    exact RL.nil
  | _, _, ds, .cons (a := v) (b := n) r t, e => by
    simp only [dsOf] at e
    cases n with
    | bo i => cases e
    | f d =>
      simp only [dOf] at e
      rename_i vs ns
      cases q : dsOf ns with
      | none => rw [q] at e; cases e
      | some ds' =>
        rw [q] at e
        cases e
        exact RL.cons r (dsOf_ok t q)
/-! ### displays -/
def mkL (ns : List NV) (S : Sl) : Rs RV := match dsOf ns with
  | some ds => if ds.length ≤ 100000 then .ok (.ol ds) S else .no
  | none => .no
def mkT (ns : List NV) (S : Sl) : Rs RV := match dsOf ns with
  | some ds => if ds.length ≤ 100000 then .ok (.f (.tup ds)) S else .no
  | none => .no
def fLst (fa : Sl → Rs (List NV)) : Sl → Rs RV := fun S => (fa S).bind mkL
def fTup (fa : Sl → Rs (List NV)) : Sl → Rs RV := fun S => (fa S).bind mkT
theorem le_line {n : Nat} (h : n ≤ 100000) : n ≤ sizeLine := Nat.le_trans h (by decide)
theorem r_newT {G : Hp} {p : Addr} {vs : List V} {ds : List D} (hg : G p = none) (r : RL K G ds vs) : R K (upd G p (.tup vs)) (.tup ds) (.ref p) := by
  simp only [R]
  exact ⟨p, vs, rfl, SqT.of upd_same, RL.mono (stp_frz (H := G) hg).ext _ _ r⟩
theorem pst_newT {τ : Nat → Addr} {G H : Hp} {σ : St} {S : Sl} {p : Addr} {o : HO} (s : SlOk K τ G H σ S) (hp : H p = none) : Pst K τ σ S G H S (upd G p o) (upd H p o) := Pst.new s (stp_newF s.le hp) (le_newF s.le hp)
theorem okr_newL {H G : Hp} {σ : St} {p : Addr} {vs : List V} {ds : List D} (l : Le G H) (hp : H p = none) (r : RL K G ds vs) : okR K σ H G (upd H p (.lst vs)) (.ref p) (.ol ds) :=
  ⟨⟨p, vs, rfl, upd_same, l.free hp, r⟩, fun q e => by cases e; exact hp⟩
theorem de_lst {fa : Sl → Rs (List NV)} (ha : DA X W es fa) : DE X W (.List es pos) (fLst fa) := by
  obtain ⟨ta, p, q, _⟩ := ha
  refine ⟨_, pe_lst p, fun τ σ S G H s Q hq => ?_⟩
  refine Gd.cases (Q1 := fun xs H1 => xs.length ≤ sizeLine ∧ ∀ p, H1 p = none → Q (.ref p) (upd H1 p (.lst xs))) bkR q s hq fun xs ns S1 G1 H1 s1 P oa hq1 => ?_
  unfold mkL at hq1
  cases e : dsOf ns with
  | none => simp only [e] at hq1; exact hq1.elim
  | some ds =>
    simp only [e] at hq1
    have r := dsOf_ok oa e
    by_cases h : ds.length ≤ 100000
    · rw [if_pos h] at hq1
      exact ⟨by rw [r.len]; exact le_line h, fun p hp => hq1 _ G1 _ (Pst.new s1 (stp_new hp) (le_new s1.le hp)) (okr_newL s1.le hp r)⟩
    · rw [if_neg h] at hq1
      exact hq1.elim
theorem de_tup {x1} {fa : Sl → Rs (List NV)} (ha : DA X W es fa) : DE X W (.Tuple es x1 pos) (fTup fa) := by
  obtain ⟨ta, p, q, _⟩ := ha
  refine ⟨_, pe_tup p, fun τ σ S G H s Q hq => ?_⟩
  refine Gd.cases (Q1 := fun xs H1 => xs.length ≤ sizeLine ∧ ∀ p, H1 p = none → Q (.ref p) (upd H1 p (.tup xs))) bkR q s hq fun xs ns S1 G1 H1 s1 P oa hq1 => ?_
  unfold mkT at hq1
  cases e : dsOf ns with
  | none => simp only [e] at hq1; exact hq1.elim
  | some ds =>
    simp only [e] at hq1
    have r := dsOf_ok oa e
    by_cases h : ds.length ≤ 100000
    · rw [if_pos h] at hq1
      exact ⟨by rw [r.len]; exact le_line h, fun p hp => hq1 _ _ _ (pst_newT s1 hp) ⟨r_newT (s1.le.free hp) r, fun _ z => nomatch z⟩⟩
    · rw [if_neg h] at hq1
      exact hq1.elim
/-! ### subscripts and slices -/
def sgn (c : Nat) : Str := ⟨#[c]⟩
def oIx (d e : D) : Option RV := match d, e with
  | .lst ds, .int i => (atI ds i).map .f
  | .tup ds, .int i => (atI ds i).map .f
  | .scr ns, .int i => (atI ns i).map fun n => .f (.int n)
  | .str x, .int i => if x.length ≤ 100000 then (atI x.cps.toList i).map fun c => .f (.str (sgn c)) else none
  | _, _ => none
theorem RL.at {G : Hp} {ds : List D} {vs : List V} {i : Int} {d : D} (r : RL K G ds vs) (h : atI ds i = some d) : ∃ v, atI vs i = some v ∧ R K G d v := by
  unfold atI at h ⊢
  rw [r.len]
  cases e : ixN ds.length i with
  | none => rw [e] at h; cases h
  | some j =>
    rw [e] at h
    exact r.get h
theorem oo_ix : OpOk K (rIx K) oIx := by
  intro G H x y d e o l hx hy ho Q hQ
  cases d <;> try (cases ho; done)
  case str z =>
    cases e <;> try (cases ho; done)
    rename_i i
    have ho' : (if z.length ≤ 100000 then (atI z.cps.toList i).map fun c => RV.f (.str (sgn c)) else none) = some o := ho
    by_cases h : z.length ≤ 100000
    · rw [if_pos h] at ho'
      cases e : atI z.cps.toList i with
      | none => rw [e] at ho'; cases ho'
      | some c =>
        rw [e] at ho'
        cases ho'
        exact .inr (.inr ⟨z, i, c, hx.str, hy.int, le_line h, e, ok_val (d := .str (sgn c)) l rfl hQ⟩)
    · rw [if_neg h] at ho'
      cases ho'
  case lst ds =>
    cases e <;> try (cases ho; done)
    rename_i i
    obtain ⟨p, vs, rfl, h1, h2⟩ := hx.lst l
    have ho' : (atI ds i).map RV.f = some o := ho
    cases e : atI ds i with
    | none => rw [e] at ho'; cases ho'
    | some d' =>
      rw [e] at ho'
      cases ho'
      obtain ⟨v, e1, r⟩ := h2.at e
      exact .inl ⟨p, vs, i, v, rfl, hy.int, SqL.of h1, e1, ok_val l r hQ⟩
  case tup ds =>
    cases e <;> try (cases ho; done)
    rename_i i
    obtain ⟨p, vs, rfl, h1, h2⟩ := hx.tup l
    have ho' : (atI ds i).map RV.f = some o := ho
    cases e : atI ds i with
    | none => rw [e] at ho'; cases ho'
    | some d' =>
      rw [e] at ho'
      cases ho'
      obtain ⟨v, e1, r⟩ := h2.at e
      exact .inr (.inl ⟨p, vs, i, v, rfl, hy.int, h1, e1, ok_val l r hQ⟩)
  case scr ns =>
    cases e <;> try (cases ho; done)
    rename_i i
    obtain ⟨p, rfl, h1⟩ := hx.scr l
    have ho' : (atI ns i).map (fun n => RV.f (.int n)) = some o := ho
    cases e : atI ns i with
    | none => rw [e] at ho'; cases ho'
    | some d' =>
      rw [e] at ho'
      cases ho'
      refine .inl ⟨p, _, i, .int d', rfl, hy.int, h1, ?_, ok_val (d := .int d') l rfl hQ⟩
      unfold atI at e ⊢
      rw [List.length_map]
      cases e' : ixN ns.length i with
      | none => rw [e'] at e; cases e
      | some j =>
        rw [e'] at e
        have e2 : ns[j]? = some d' := e
        show (ns.map V.int)[j]? = some (.int d')
        rw [List.getElem?_map, e2]
        rfl
theorem de_ix (ha : DN X W a f1) (hb : DN X W b g1) (hs : PlainIx b := by exact fun _ _ => rfl) : DE X W (.Subscript a b pos) (fOp oIx f1 g1) :=
  let ⟨_, p1, d1⟩ := ha; let ⟨_, p2, d2⟩ := hb; ⟨_, pe_ix ix_seq p1 p2 hs, den_op oo_ix d1 d2⟩
/-! a slice's part -/
abbrev okO : Okk (Option Int) (Option Int) := fun _ _ _ _ _ v r => v = r
def DO (X : Cx) (W : WX') (e : Option Expr) (f : Sl → Rs (Option Int)) : Prop := ∃ t, PO X e t ∧ Dn okO X.K W t f
def iOf (n : NV) (S : Sl) : Rs Int := match n with
  | .f (.int b) => .ok b S
  | _ => .no
theorem do_none : DO X W none (fun S => .ok none S) := ⟨_, po_none, fun τ σ S G H s Q hq => hq none G H (Pst.refl s) rfl⟩
theorem do_some (ha : DN X W e f1) : DO X W (some e) (fun S => (f1 S).bind fun n S1 => (iOf n S1).bind fun i S2 => .ok (some i) S2) := by
  obtain ⟨t, p, q⟩ := ha
  refine ⟨_, po_some p, fun τ σ S G H s Q hq => ?_⟩
  refine Gd.cases (ok2 := okO) (Q1 := fun (x : V) H1 => ∃ i, x = V.int i ∧ Q (some i) H1) (fun _ _ _ _ _ _ _ _ _ h => h) q s hq fun x n S1 G1 H1 s1 P o r => ?_
  cases n with
  | bo i => exact r.elim
  | f d =>
    cases d <;> try exact r.elim
    rename_i b
    exact ⟨b, o, r _ G1 H1 (Pst.refl s1) rfl⟩
def cutD {α : Type} (xs : List α) (lo hi : Option Int) : List α := (xs.drop (HT.sIx xs.length 0 lo)).take (HT.sIx xs.length xs.length hi - HT.sIx xs.length 0 lo)
theorem RL.cut {G : Hp} {ds : List D} {vs : List V} (r : RL K G ds vs) (lo hi : Option Int) : RL K G (cutD ds lo hi) (cutV vs lo hi) := by
  unfold cutD cutV
  rw [r.len]
  exact RL.take _ (RL.drop _ r)
def oSl (d : D) (lo hi : Option Int) : Option RV := match d with
  | .lst ds => some (.ol (cutD ds lo hi))
  | .tup ds => some (.f (.tup (cutD ds lo hi)))
  | .str x => if x.length ≤ 100000 then some (.f (.str (cutS x lo hi))) else none
  | _ => none
def rSlAny (K : PySem.W.Frag) : V → Option Int → Option Int → Hp → VK → Prop := fun x lo hi H Q => rSlL K x lo hi H Q ∨ (rSlA K x lo hi H Q ∨ rSlS x lo hi H Q)
theorem sl_any : SlR X (rSlAny X.K) := sl_list.or (sl_tupA.or sl_str)
theorem cut_whole {α : Type} {xs : List α} {lo hi : Option Int} (h : HT.sIx xs.length 0 lo = 0 ∧ HT.sIx xs.length xs.length hi = xs.length) : cutD xs lo hi = xs := by
  unfold cutD
  rw [h.1, h.2]
  simp
def fSl (f : Sl → Rs NV) (l u : Sl → Rs (Option Int)) : Sl → Rs RV := fun S => (f S).bind fun n S1 => (l S1).bind fun lo S2 => (u S2).bind fun hi S3 => match view S3 n with
  | some d => (match oSl d lo hi with
    | some o => .ok o S3
    | none => .no)
  | none => .no
theorem de_slice {lo hi : Option Expr} {fl fu : Sl → Rs (Option Int)} {p2 : Pos} (ha : DN X W e f1) (hl : DO X W lo fl) (hu : DO X W hi fu) : DE X W (.Subscript e (.Slice lo hi none p2) pos) (fSl f1 fl fu) := by
  obtain ⟨t, p, q⟩ := ha
  obtain ⟨tl, pl, ql⟩ := hl
  obtain ⟨tu, pu, qu⟩ := hu
  refine ⟨_, pe_slice sl_any p pl pu, fun τ σ S G H s Q hq => ?_⟩
  refine Gd.cases (Q1 := fun x H1 => tl σ H1 fun l H2 => tu σ H2 fun u H3 => rSlAny X.K x l u H3 Q) bkR q s hq fun x n S1 G1 H1 s1 P o hq1 => ?_
  refine Gd.cases (Q1 := fun l H2 => tu σ H2 fun u H3 => rSlAny X.K x l u H3 Q) bkR ql s1 hq1 fun l l' S2 G2 H2 s2 P2 ol hq2 => ?_
  refine Gd.cases (Q1 := fun u H3 => rSlAny X.K x l u H3 Q) bkR qu s2 hq2 fun u u' S3 G3 H3 s3 P3 ou hq3 => ?_
  cases (show l = l' from ol)
  cases (show u = u' from ou)
  cases ev : view S3 n with
  | none => simp only [ev] at hq3; exact hq3.elim
  | some d =>
    simp only [ev] at hq3
    have hx := view_ok s3 (NVOk.mono (NVOk.mono o P2.st.ext) P3.st.ext) ev
    cases d <;> try exact hq3.elim
    case lst ds =>
      obtain ⟨a, vs, rfl, h1, h2⟩ := hx.lst s3.le
      exact .inl ⟨a, vs, rfl, SqL.of h1, fun p hp => hq3 _ G3 _ (Pst.new s3 (stp_new hp) (le_new s3.le hp)) (okr_newL s3.le hp (h2.cut l u))⟩
    case tup ds =>
      obtain ⟨a, vs, rfl, h1, h2⟩ := hx.tup s3.le
      refine .inr (.inl ⟨a, vs, rfl, h1, fun hw => ?_, fun _ p hp => hq3 _ _ _ (pst_newT s3 hp) ⟨r_newT (s3.le.free hp) (h2.cut l u), fun _ z => nomatch z⟩⟩)
      rw [h2.len] at hw
      refine hq3 _ G3 H3 (Pst.refl s3) ⟨?_, fun _ z => nomatch z⟩
      rw [cut_whole hw]
      cases hx with
      | f h => exact h
    case str z =>
      by_cases h : z.length ≤ 100000
      · simp only [oSl, if_pos h] at hq3
        exact .inr (.inr ⟨z, hx.str, le_line h, hq3 _ G3 H3 (Pst.refl s3) ⟨rfl, fun _ z => nomatch z⟩⟩)
      · simp only [oSl, if_neg h] at hq3
        exact hq3.elim
/-! ### calls of built-ins -/
def views (S : Sl) : List NV → Option (List D)
  | [] => some []
  | n :: ns => (view S n).bind fun d => (views S ns).map (d :: ·)
def CallOk (K : PySem.W.Frag) (r : List V → Hp → VK → Prop) (op : List D → Option RV) : Prop :=
  ∀ G H xs ds o, Le G H → Paired (fun d x => RX K G H d x) ds xs → op ds = some o → ∀ Q : VK, (∀ v G' H', Stp (fun _ => False) G H G' H' → Le G' H' → (∀ σ, RVOk K G' H' σ v o) → (∀ p, ra v o = some p → H p = none) → Q v H') → r xs H Q
def liftA (op : List D → Option RV) (ns : List NV) (S : Sl) : Rs RV := match views S ns with
  | some ds => (match op ds with
    | some o => .ok o S
    | none => .no)
  | none => .no
theorem views_ok {τ : Nat → Addr} {G H : Hp} {σ : St} {S : Sl} (s : SlOk K τ G H σ S) : ∀ {vs : List V} {ns : List NV} {ds : List D}, Paired (NVOk K G σ) vs ns → views S ns = some ds → Paired (fun d x => RX K G H d x) ds vs
  | _, _, ds, .nil, e => by
    simp only [views] at e
    cases e
    exact .nil
  | _, _, ds, .cons (a := v) (b := n) (l₁ := vs) (l₂ := ns) r t, e => by
    simp only [views] at e
    cases q : view S n with
    | none => rw [q] at e; cases e
    | some d =>
      rw [q] at e
      cases q2 : views S ns with
      | none => rw [q2] at e; cases e
      | some ds' =>
        rw [q2] at e
        cases e
        exact .cons (view_ok s r q) (views_ok s t q2)
theorem den_liftA {r : List V → Hp → VK → Prop} {op : List D → Option RV} (oo : CallOk K r op) {τ : Nat → Addr} {G H : Hp} {σ : St} {S : Sl} {xs : List V} {ns : List NV} {Q : VK} (s : SlOk K τ G H σ S) (oa : Paired (NVOk K G σ) xs ns) (hq : Gd (okR K σ) K W τ σ S G H (liftA op ns S) Q) : r xs H Q := by
  unfold liftA at hq
  cases ea : views S ns with
  | none => simp only [ea] at hq; exact hq.elim
  | some ds =>
    cases eo : op ds with
    | none => simp only [ea, eo] at hq; exact hq.elim
    | some v =>
      simp only [ea, eo] at hq
      exact oo G H xs ds v s.le (views_ok s oa ea) eo Q fun v G' H' st l r fr => hq v G' H' (Pst.new s st l) ⟨r σ, fr⟩
def fCB (op : List D → Option RV) (fa : Sl → Rs (List NV)) : Sl → Rs RV := fun S => (fa S).bind (liftA op)
theorem den_cb {r : List V → Hp → VK → Prop} {op : List D → Option RV} {t : TA} {fa : Sl → Rs (List NV)} (oo : CallOk K r op) (q : DenA K W t fa) : Den K W (tCB r t) (fCB op fa) := fun τ σ S G H s Q hq =>
  Gd.cases (Q1 := fun vs H1 => r vs H1 Q) bkR q s hq fun xs ns S1 G1 H1 s1 P oa hq1 => den_liftA oo s1 oa hq1
theorem de_cb {x : Str} {id : String} {p : Pos} {r : List V → Hp → VK → Prop} {op : List D → Option RV} {fa : Sl → Rs (List NV)} (hc : CallR X (.builtin id) r) (oo : CallOk X.K r op) (hm : X.mg x = none) (hv : bootBuiltins x = some (.builtin id)) (ha : DA X W (e :: es) fa)
    (hg : Gl X x := by rfl) (hn : x ≠ "__name__" := by decide) (hdb : (x == ("__debug__" : Str)) = false := by decide)
    (he : starEach (e :: es) X.env = (false, eval e X.env) :: starEach es X.env := by rfl) (hpl : (backTo pos (starEach es X.env)).any (·.1) = false := by rfl) : DE X W (.Call (.Name x p) (e :: es) [] pos) (fCB op fa) :=
  let ⟨_, p1, q, _⟩ := ha; ⟨_, pe_callB hc hg hm hv p1 hn hdb he hpl, den_cb oo q⟩
theorem de_ct {x : Str} {T : String} {p : Pos} {r : List V → Hp → VK → Prop} {op : List D → Option RV} {fa : Sl → Rs (List NV)} (hc : CallR X (.type T) r) (oo : CallOk X.K r op) (hm : X.mg x = none) (hv : bootBuiltins x = some (.type T)) (ha : DA X W (e :: es) fa)
    (hg : Gl X x := by rfl) (hn : x ≠ "__name__" := by decide) (hdb : (x == ("__debug__" : Str)) = false := by decide)
    (he : starEach (e :: es) X.env = (false, eval e X.env) :: starEach es X.env := by rfl) (hpl : (backTo pos (starEach es X.env)).any (·.1) = false := by rfl) : DE X W (.Call (.Name x p) (e :: es) [] pos) (fCB op fa) :=
  let ⟨_, p1, q, _⟩ := ha; ⟨_, pe_callTy hc hg hm hv p1 hn hdb he hpl, den_cb oo q⟩
theorem pr1 {G H : Hp} {d : D} {xs : List V} (h : Paired (fun d x => RX K G H d x) [d] xs) : ∃ x, xs = [x] ∧ RX K G H d x := by
  cases h with
  | cons a t => cases t; exact ⟨_, rfl, a⟩
theorem pr2 {G H : Hp} {d e : D} {xs : List V} (h : Paired (fun d x => RX K G H d x) [d, e] xs) : ∃ x y, xs = [x, y] ∧ RX K G H d x ∧ RX K G H e y := by
  cases h with
  | cons a t =>
    cases t with
    | cons b u => cases u; exact ⟨_, _, rfl, a, b⟩
def cLen : List D → Option RV
  | [.lst ds] => some (.f (.int ds.length))
  | [.tup ds] => some (.f (.int ds.length))
  | [.scr ns] => some (.f (.int ns.length))
  | [.str x] => if x.length ≤ 100000 then some (.f (.int x.length)) else none
  | _ => none
theorem co_len : CallOk K (fun xs H Q => ∃ x n, xs = [x] ∧ LenV K x H n ∧ Q (.int n) H) cLen := by
  intro G H xs ds o l hx ho Q hQ
  unfold cLen at ho
  split at ho
  · obtain ⟨x, rfl, h⟩ := pr1 hx
    cases ho
    obtain ⟨p, vs, rfl, h1, h2⟩ := h.lst l
    exact ⟨_, _, rfl, .inl ⟨vs, SqL.of h1, rfl⟩, by rw [h2.len]; exact ok_val (d := .int _) l rfl hQ⟩
  · obtain ⟨x, rfl, h⟩ := pr1 hx
    cases ho
    obtain ⟨p, vs, rfl, h1, h2⟩ := h.tup l
    exact ⟨_, _, rfl, .inr ⟨vs, h1, rfl⟩, by rw [h2.len]; exact ok_val (d := .int _) l rfl hQ⟩
  · obtain ⟨x, rfl, h⟩ := pr1 hx
    cases ho
    obtain ⟨p, rfl, h1⟩ := h.scr l
    exact ⟨_, _, rfl, .inl ⟨_, h1, rfl⟩, by rw [List.length_map]; exact ok_val (d := .int _) l rfl hQ⟩
  · rename_i z
    obtain ⟨x, rfl, h⟩ := pr1 hx
    by_cases hz : z.length ≤ 100000
    · rw [if_pos hz] at ho
      cases ho
      cases h.str
      exact ⟨_, _, rfl, ⟨le_line hz, rfl⟩, ok_val (d := .int _) l rfl hQ⟩
    · rw [if_neg hz] at ho
      cases ho
  · cases ho
theorem de_len {p : Pos} {fa : Sl → Rs (List NV)} (hm : X.mg "len" = none) (ha : DA X W [e] fa) (hg : Gl X "len" := by rfl)
    (he : starEach [e] X.env = (false, eval e X.env) :: starEach [] X.env := by rfl) (hpl : (backTo pos (starEach [] X.env)).any (·.1) = false := by rfl) : DE X W (.Call (.Name "len" p) [e] [] pos) (fCB cLen fa) :=
  de_cb call_len co_len hm PySem.boot_len ha hg (by decide) (by decide) he hpl
end
end DL
set_option Elab.async false
set_option linter.all false
set_option maxRecDepth 100000
set_option maxHeartbeats 4000000
/-! DL4: defs: what a def denotes, its call; statements. -/
namespace DL
open PySem L2
open PyProof.Rows (envOfC)
/-- a def keeps a promise wherever no repr runs around it -/
structure FnG (P : Program) (w : World) (K : PySem.W.Frag) (mg : Str → Option Value) (base : Heap) (CX : CXT) (k : Nat) (f : Addr) (fd : FuncData) (ps : List Str) (sp : Sp) : Prop where
  arity : ∀ vs H Q E, sp vs H Q E → vs.length = ps.length
  go : ∀ (A : Around) (outer : List Env) (s : Shared) (H : Hp) (args : Args) (us : List Value) (vs : List V) (Q : VK) (E : XK), Cg A k → Env0 P w K mg base A outer s H → BindsTo s fd args (ps.zip us) → Vals vs us →
    sp vs H Q E → codeAny (model P w) A (.call (.ref f) args) (CR CX outer P w H s Q E) s
theorem Cg.deeper {A : Around} {k : Nat} (c : Cg A (k + 1)) (env : Env) : Cg (A.deeper env) k := ⟨c.room.deeper env, c.gd⟩
theorem fnG_of {CX : CXT} {P : Program} {w : World} {K : PySem.W.Frag} {mg : Str → Option Value} {base : Heap} {k : Nat} {f : Addr} {name qual : Str} {params : Arguments} {body : List Stmt} {scope : Scope} {dV kV doc pm cdv ct oc : Value} {an od : Option Addr}
    {osl : Array (Option Value)} {N ps : List Str} {sp : Sp} (lk : K.lookup f = some ⟨oc, od, .func (PySem.W.fnOf name qual params body scope dV kV doc pm an cdv ct), osl⟩) (hcd : PySem.W.codeIn K cdv qual = true) (S : FnScope N ps scope)
    (ar : ∀ vs H Q E, sp vs H Q E → vs.length = ps.length)
    (bd : ∀ (A : Around) (outer : List Env) (s : Shared) (H : Hp) (vs : List V) (Q : VK) (E : XK), Cg (A.deeper (envOfC qual scope s.heap.objs.size f cdv)) k → sp vs H Q E →
      ∃ t, PSs (cxOf CX P w K mg base N qual scope f cdv A outer s H E) body t ∧ t { nx := fun _ H' => Q .non H', rt := Q } (start N vs) H) :
    FnG P w K mg base CX (k + 1) f (PySem.W.fnOf name qual params body scope dV kV doc pm an cdv ct) ps sp := by
  refine ⟨ar, fun A outer s H args us vs Q E cg e0 hb rv hsp => ?_⟩
  have arity := ar _ _ _ _ hsp
  have inK : K.In s.heap := e0.mod.kin.keeps fun b o e => (e0.bs b o e).1
  have nolim : s.heap.NoLimit := e0.mod.nolimit.keeps fun b o e => (e0.bs b o e).1
  have kinds : ∀ y ∈ ps.zip us, scope.names.lookup y.1 = some .local ∨ (scope.names.lookup y.1 = some .cell ∧ ((cellsFrom (s.heap.objs.size + 1) scope.names []).lookup y.1).isSome = true) := fun ⟨n, v⟩ hy => by
    rcases S.par n (List.of_mem_zip hy).1 with z | z
    · exact .inl z
    · exact .inr ⟨z, PySem.W.cellsFrom_some _ _ _ (.inl z)⟩
  refine codeAny_call_function cg.room.depth (inK _ _ lk) rfl S.co S.gen rfl (PySem.W.codeRec_of inK hcd) (hb _ _ _ _ ?_)
  refine wpAny_newFunctionEnv_cells S.kind kinds fun env ee s1 inC => ?_
  subst ee
  refine ⟨nolim.keeps inC.toInCall.keep, codeAny_func ?_⟩
  obtain ⟨t, pt, qt⟩ := bd A outer s H vs Q E (cg.deeper _) hsp
  have I := inv_start (CX := CX) (E := E) S cg.room.hd e0 arity rv inC
  refine wpAny_mono (pt.run [] s1 (start N vs) H _ I qt) (fun fl s' hs => ?_) fun e s' hs => hs
  cases fl with
  | ret u =>
    obtain ⟨v, σ', H', J, rv', q⟩ := hs
    exact ⟨v, H', J.os, J.bare, J.base, J.hok, rv', q⟩
  | next =>
    obtain ⟨σ', H', J, q⟩ := hs
    exact ⟨.non, H', J.os, J.bare, J.base, J.hok, rfl, q⟩
  | brk => exact hs.elim fun _ z => z.elim fun _ y => y.2.elim
  | cont => exact hs.elim fun _ z => z.elim fun _ y => y.2.elim
section
variable {X : Cx} {CX : CXT} {k : Nat} {f : Addr} {fd : FuncData} {ps : List Str} {sp : Sp} {x : Str} {p pos : Pos} {e : Expr} {es : List Expr} {t : TA}
/-- the callee runs; what it raises is wished for at the caller's slots -/
theorem run_fnG {pins : List (Addr × Obj)} {σ : St} {H : Hp} {s : Shared} {Q : VK} {us : List Value} {vs : List V} {E : XK} (F : FnG X.prog X.w X.K X.mg X.base CX k f fd ps sp) (cg : Cg X.A k) (hb : Binds X.K fd ps [])
    (hx : ∀ (e : Value) (s' : Shared), CX X.stack H s E e s' → X.xe e s') (I : Inv X pins σ H s) (r : Vals vs us) (h : sp vs H Q E) : wpAny (model X.prog X.w) X.A (call (.ref f) us) (EP X pins σ Q) X.xe s := by
  have hl : us.length = ps.length := by rw [← r.length]; exact F.arity _ _ _ _ h
  have bt := hb s us I.kIn (by simpa using hl)
  rw [List.append_nil] at bt
  refine wpAny_call (codeAny_mono (F.go X.A X.stack s H ⟨us, []⟩ us vs Q E cg I.env0 bt r h) fun res s' hq => ?_)
  cases res with
  | error e => exact hx e s' hq
  | ok fl =>
    cases fl with
    | ret u => exact I.after hq
    | next => exact hq.elim
    | brk => exact hq.elim
    | cont => exact hq.elim
/-- f(e, ..) by the promise; E may speak of the caller's slots -/
def tCl (sp : Sp) (W : WX') (t : TA) : TE := fun σ H Q => t σ H fun vs H1 => sp vs H1 Q fun c d H' => W c d σ H'
/-- what a callee raises is wished for -/
def PassW (CX : CXT) (X : Cx) (W : WX') : Prop := ∀ (pins : List (Addr × Obj)) (σ : St) (H : Hp) (s : Shared) (e : Value) (s' : Shared), Inv X pins σ H s → CX X.stack H s (fun c d H' => W c d σ H') e s' → X.xe e s'
theorem passW0 {X : Cx} {W : WX'} : PassW CX0 X W := fun _ _ _ _ _ _ _ h => h.elim
theorem pe_cl {W : WX'} (F : FnG X.prog X.w X.K X.mg X.base CX k f fd ps sp) (cg : Cg X.A k) (hm : X.mg x = some (.ref f)) (hk : PySem.W.keepIn X.K (.ref f) = true) (hb : Binds X.K fd ps []) (hx : PassW CX X W) (ha : PA X (e :: es) t)
    (hg : Gl X x := by rfl) (hdb : (x == ("__debug__" : Str)) = false := by decide) (he : starEach (e :: es) X.env = (false, eval e X.env) :: starEach es X.env := by rfl) (hpl : (backTo pos (starEach es X.env)).any (·.1) = false := by rfl) :
    PE X (.Call (.Name x p) (e :: es) [] pos) (tCl sp W t) := by
  refine ⟨fun pins s σ H Q I h => wpAny_Call_Name_kw (ld_glob I hg hm ?_ hdb)⟩
  refine PySem.W.callWith_K (h₀ := X.base) I.ok.mod.kin hk (thn (ha.run pos pins s σ H _ I h) fun us s1 ⟨vs, H1, I1, r, q⟩ => ⟨I1.kIn, ?_⟩) he hpl
  exact run_fnG F cg hb (fun e s' z => hx pins σ H1 s1 e s' I1 z) I1 r q
theorem pe_cl0 {W : WX'} (F : FnG X.prog X.w X.K X.mg X.base CX k f fd ps sp) (cg : Cg X.A k) (hm : X.mg x = some (.ref f)) (hk : PySem.W.keepIn X.K (.ref f) = true) (hb : Binds X.K fd ps []) (hx : PassW CX X W)
    (hg : Gl X x := by rfl) (hdb : (x == ("__debug__" : Str)) = false := by decide) : PE X (.Call (.Name x p) [] [] pos) (tCl sp W tNil) := by
  refine ⟨fun pins s σ H Q I h => wpAny_Call_Name_kw (ld_glob I hg hm ?_ hdb)⟩
  exact PySem.W.callWith_K0 I.kIn hk (run_fnG (us := []) F cg hb (fun e s' z => hx pins σ H s e s' I z) I .nil h)
end
/-! ### what a def denotes: the slots of its parameters in, a result and the slots out -/
/-- the first parameter alone may be a list or dict of the caller's -/
def okPar (j : Nat) (sv : SV) : Prop := (∃ d, sv = .f d) ∨ (j = 0 ∧ ((∃ ds, sv = .ol (some 0) ds) ∨ ∃ ks ds, sv = .od (some 0) ks ds))
structure FPst (τ : Nat → Addr) (K : PySem.W.Frag) (O : Addr → Prop) (G H : Hp) (S' : Sl) (G' H' : Hp) : Prop where
  st : Stp O G H G' H'
  le : Le G' H'
  ol : ∀ ds, S'[0]? = some (.ol (some 0) ds) → ∃ vs, H' (τ 0) = some (.lst vs) ∧ G' (τ 0) = none ∧ RL K G' ds vs
  od : ∀ ks ds, S'[0]? = some (.od (some 0) ks ds) → ∃ ws, H' (τ 0) = some (.dK ws) ∧ G' (τ 0) = none ∧ ws.map (·.1) = ks ∧ RL K G' ds (ws.map (·.2))
def Gf (K : PySem.W.Frag) (τ : Nat → Addr) (O : Addr → Prop) (G H : Hp) (o : Rs RV) (Q : VK) (E : XK) : Prop := match o with
  | .ok (.bo _) _ => False
  | .ok r S' => ∀ v G' H', FPst τ K O G H S' G' H' → RVOk K G' H' [] v r → (∀ p, ra v r = some p → H p = none) → Q v H'
  | .ex x S' => ∀ cls d G' H', FPst τ K O G H S' G' H' → XOk K G' H H' x cls d → E cls d H'
  | .no => False
def spD (K : PySem.W.Frag) (n : Nat) (F : Sl → Rs RV) : Sp := fun vs H Q E => vs.length = n ∧ ∃ τ G S0, SlOk K τ G H (vs.map some) S0 ∧ (∀ j sv, S0[j]? = some sv → okPar j sv) ∧ Gf K τ (Ow (vs.map some) S0) G H (F S0) Q E
/-- a def of the text that stands under its name and denotes F -/
structure Fd (P : Program) (w : World) (K : PySem.W.Frag) (mg : Str → Option Value) (base : Heap) (CX : CXT) (k : Nat) (x : Str) (ps : List Str) (F : Sl → Rs RV) : Prop where
  ex : ∃ f fd, mg x = some (.ref f) ∧ PySem.W.keepIn K (.ref f) = true ∧ Binds K fd ps [] ∧ FnG P w K mg base CX k f fd ps (spD K ps.length F) ∧ ∃ oc od osl, K.lookup f = some ⟨oc, od, .func fd, osl⟩
/-! ### calls: all arguments data; or the first one a slot's own list -/
def noBo (r : RV) (S : Sl) : Rs RV := match r with
  | .bo _ => .no
  | r => .ok r S
def fCall (F : Sl → Rs RV) (fa : Sl → Rs (List NV)) : Sl → Rs RV := fun S => (fa S).bind fun ns S1 => match dsOf ns with
  | some ds => (match F (ds.map .f) with
    | .ok r _ => noBo r S1
    | .ex x _ => .ex x S1
    | .no => .no)
  | none => .no
theorem vAt_map {vs : List V} {j : Nat} : vAt (vs.map some) j = vs[j]? := by
  unfold vAt
  rw [List.getElem?_map]
  cases vs[j]? <;> rfl
theorem sl_data {K : PySem.W.Frag} {τ : Nat → Addr} {G H : Hp} {vs : List V} {ds : List D} (l : Le G H) (r : RL K G ds vs) : SlOk K τ G H (vs.map some) (ds.map .f) := by
  refine ⟨by simp [r.len], l, fun i sv e => ?_, fun i j p ⟨sv, e, z⟩ _ => ?_⟩
  · rw [List.getElem?_map] at e
    cases q : ds[i]? with
    | none => rw [q] at e; cases e
    | some d =>
      rw [q] at e
      cases e
      obtain ⟨v, h1, h2⟩ := r.get q
      exact ⟨v, by rw [vAt_map]; exact h1, h2⟩
  · rw [List.getElem?_map] at e
    cases q : ds[i]? with
    | none => rw [q] at e; cases e
    | some d =>
      rw [q] at e
      cases e
      cases z
theorem ow_data {vs : List V} {ds : List D} {p : Addr} : ¬ Ow (vs.map some) (ds.map .f) p := fun ⟨i, sv, e, z⟩ => by
  rw [List.getElem?_map] at e
  cases q : ds[i]? with
  | none => rw [q] at e; cases e
  | some d =>
    rw [q] at e
    cases e
    cases z
theorem RVOk.any {K : PySem.W.Frag} {G H : Hp} {σ σ' : St} {v : V} {r : RV} (h : RVOk K G H σ v r) (hn : ∀ i, r ≠ .bo i) : RVOk K G H σ' v r := by
  cases r with
  | bo i => exact absurd rfl (hn i)
  | f d => exact h
  | ol ds => exact h
  | od ks ds => exact h
theorem den_call {K : PySem.W.Frag} {W : WX'} {n : Nat} {F : Sl → Rs RV} {t : TA} {fa : Sl → Rs (List NV)} (hn : LenA fa n) (q : DenA K W t fa) : Den K W (tCl (spD K n F) W t) (fCall F fa) := by
  intro τ σ S G H s Q hq
  unfold fCall at hq
  cases e0 : fa S with
  | no => simp only [e0, Rs.bind_no] at hq; exact hq.elim
  | ex x S1 =>
    simp only [e0, Rs.bind_ex] at hq
    refine q τ σ S G H s _ ?_
    rw [e0]
    exact hq
  | ok ns S1 =>
    simp only [e0, Rs.bind_ok] at hq
    refine q τ σ S G H s _ ?_
    rw [e0]
    intro vs G1 H1 P oa
    have hq1 := hq.back bkR P
    have s1 := P.sl
    cases e : dsOf ns with
    | none => simp only [e] at hq1; exact hq1.elim
    | some ds =>
      simp only [e] at hq1
      have r := dsOf_ok oa e
      have fin : ∀ {S' G' H'}, FPst (fun _ => 0) K (Ow (vs.map some) (ds.map .f)) G1 H1 S' G' H' → Pst K τ σ S1 G1 H1 S1 G' H' := fun fp =>
        ⟨fp.st.imp fun p _ z => (ow_data z).elim, s1.step fp.st fp.le fun p _ z => ow_data z, fun _ z => z⟩
      refine ⟨by rw [oa.length]; exact hn _ _ _ e0, fun _ => 0, G1, ds.map .f, sl_data s1.le r, fun j sv ej => ?_, ?_⟩
      · rw [List.getElem?_map] at ej
        cases q' : ds[j]? with
        | none => rw [q'] at ej; cases ej
        | some d =>
          rw [q'] at ej
          cases ej
          exact .inl ⟨_, rfl⟩
      · cases eF : F (ds.map .f) with
        | no => simp only [eF] at hq1; exact hq1
        | ex x S' =>
          simp only [eF] at hq1
          exact fun c d G' H' fp xo => hq1 c d G' H' (fin fp) xo
        | ok rr S' =>
          simp only [eF] at hq1
          have main : ∀ v G' H', FPst (fun _ => 0) K (Ow (vs.map some) (ds.map .f)) G1 H1 S' G' H' → RVOk K G' H' [] v rr → (∀ p, ra v rr = some p → H1 p = none) → (∀ i, rr ≠ .bo i) → Gd (okR K σ) K W τ σ S1 G1 H1 (.ok rr S1) Q → Q v H' :=
            fun v G' H' fp ro fr hb z => z v G' H' (fin fp) ⟨ro.any hb, fr⟩
          cases rr with
          | bo i => exact hq1
          | f d => exact fun v G' H' fp ro fr => main v G' H' fp ro fr (fun _ z => nomatch z) hq1
          | ol ds' => exact fun v G' H' fp ro fr => main v G' H' fp ro fr (fun _ z => nomatch z) hq1
          | od ks ds' => exact fun v G' H' fp ro fr => main v G' H' fp ro fr (fun _ z => nomatch z) hq1
end DL
set_option Elab.async false
set_option linter.all false
set_option maxRecDepth 100000
set_option maxHeartbeats 4000000
/-! DL5: own lists changed in place, statements, loops, a def by its body. -/
namespace DL
open PySem L2
open PyProof.Rows (envOfC)
section
variable {X : Cx} {W : WX'} {K : PySem.W.Frag}
theorem ow_at {τ : Nat → Addr} {G H : Hp} {σ : St} {S : Sl} {i : Nat} {t : Option Nat} {ds : List D} (s : SlOk K τ G H σ S) (e : S[i]? = some (.ol t ds)) :
    ∃ p vs, vAt σ i = some (.ref p) ∧ H p = some (.lst vs) ∧ G p = none ∧ RL K G ds vs ∧ (∀ j, t = some j → τ j = p) ∧ OwAt σ S i p := by
  obtain ⟨p, vs, h1, h2, h3, h4, h5⟩ := s.ok i _ e
  exact ⟨p, vs, h1, h2, h3, h4, h5, _, e, by rw [h1]; rfl⟩
theorem ow_atD {τ : Nat → Addr} {G H : Hp} {σ : St} {S : Sl} {i : Nat} {t : Option Nat} {ks : List Key} {ds : List D} (s : SlOk K τ G H σ S) (e : S[i]? = some (.od t ks ds)) :
    ∃ p ws, vAt σ i = some (.ref p) ∧ H p = some (.dK ws) ∧ G p = none ∧ ws.map (·.1) = ks ∧ RL K G ds (ws.map (·.2)) ∧ (∀ j, t = some j → τ j = p) ∧ OwAt σ S i p := by
  obtain ⟨p, vs, h1, h2, h3, h4, h5, h6⟩ := s.ok i _ e
  exact ⟨p, vs, h1, h2, h3, h4, h5, h6, _, e, by rw [h1]; rfl⟩
/-- slot i's object is changed in place -/
theorem pst_put {τ : Nat → Addr} {G H G' H' : Hp} {σ : St} {S : Sl} {i : Nat} {p : Addr} {sv : SV} (s : SlOk K τ G H σ S) (ow : OwAt σ S i p) (st : Stp (fun q => q = p) G H G' H') (l : Le G' H') (hn : SOk K τ G' H' (vAt σ i) sv) (ho : oa (vAt σ i) sv = some p) :
    Pst K τ σ S G H (S.set i sv) G' H' := by
  have back : ∀ j q, OwAt σ (S.set i sv) j q → OwAt σ S j q := fun j q ⟨sw, h1, h2⟩ => by
    rcases getElem?_set_of h1 with ⟨rfl, rfl⟩ | ⟨ne, e⟩
    · rw [ho] at h2
      cases h2
      exact ow
    · exact ⟨sw, e, h2⟩
  refine ⟨st.imp fun q _ e => ⟨i, e ▸ ow⟩, ⟨by rw [List.length_set]; exact s.len, l, fun j sw e => ?_, fun j k q a b => s.ap j k q (back j q a) (back k q b)⟩, fun q ⟨j, z⟩ => ⟨j, back j q z⟩⟩
  rcases getElem?_set_of e with ⟨rfl, rfl⟩ | ⟨ne, e⟩
  · exact hn
  · refine (s.ok j sw e).keep st.ext fun q hq => ?_
    obtain ⟨k1, k2⟩ := st.keep q ((s.ok j sw e).owned hq).1 (by
      rintro rfl
      exact ne (s.ap j i q ⟨sw, e, hq⟩ ow))
    exact ⟨k1.own ((s.ok j sw e).owned hq).2, k2⟩
theorem stp_upd {G H : Hp} {p : Addr} {o : HO} (hp : H p ≠ none) : Stp (fun q => q = p) G H G (upd H p o) := by
  refine ⟨Ext.refl _, fun a _ hn => ⟨.inl (upd_ne hn), rfl⟩, fun a ha => ?_⟩
  by_cases e : a = p
  · subst e
    rw [upd_same]
    simp
  · rw [upd_ne e]
    exact ha
theorem le_upd {G H : Hp} {p : Addr} {o : HO} (l : Le G H) (hg : G p = none) : Le G (upd H p o) := fun a u e => by
  rw [upd_ne (ne_of_none e hg)]
  exact l a u e
/-- the list in slot i gets other items -/
theorem pst_putL {τ : Nat → Addr} {G H : Hp} {σ : St} {S : Sl} {i : Nat} {t : Option Nat} {ds ds' : List D} {p : Addr} {vs' : List V} (s : SlOk K τ G H σ S) (e : S[i]? = some (.ol t ds)) (hv : vAt σ i = some (.ref p)) (r : RL K G ds' vs') :
    Pst K τ σ S G H (S.set i (.ol t ds')) G (upd H p (.lst vs')) := by
  obtain ⟨q, vs, h1, h2, h3, h4, h5, ow⟩ := ow_at s e
  rw [hv] at h1
  cases h1
  refine pst_put s ow (stp_upd (by rw [h2]; simp)) (le_upd s.le h3) ?_ (by rw [hv]; rfl)
  exact ⟨p, vs', hv, upd_same, h3, r, h5⟩
theorem pst_putD {τ : Nat → Addr} {G H : Hp} {σ : St} {S : Sl} {i : Nat} {t : Option Nat} {ks ks' : List Key} {ds ds' : List D} {p : Addr} {ws' : List (Key × V)} (s : SlOk K τ G H σ S) (e : S[i]? = some (.od t ks ds)) (hv : vAt σ i = some (.ref p)) (hk : ws'.map (·.1) = ks') (r : RL K G ds' (ws'.map (·.2))) :
    Pst K τ σ S G H (S.set i (.od t ks' ds')) G (upd H p (.dK ws')) := by
  obtain ⟨q, vs, h1, h2, h3, h4, h5, h6, ow⟩ := ow_atD s e
  rw [hv] at h1
  cases h1
  refine pst_put s ow (stp_upd (by rw [h2]; simp)) (le_upd s.le h3) ?_ (by rw [hv]; rfl)
  exact ⟨p, ws', hv, upd_same, h3, hk, r, h6⟩
/-! ### a call that is lent the list of a slot -/
def putBack (S1 : Sl) (i : Nat) (t : Option Nat) (S' : Sl) (k : Sl → Rs RV) : Rs RV := match S'[(0 : Nat)]? with
  | some (.ol (some 0) ds') => k (S1.set i (.ol t ds'))
  | _ => .no
def fCallB (F : Sl → Rs RV) (fa : Sl → Rs (List NV)) : Sl → Rs RV := fun S => (fa S).bind fun ns S1 => match ns with
  | .bo i :: rest => (match S1[i]?, dsOf rest with
    | some (.ol t ds), some es => (match F (.ol (some 0) ds :: es.map .f) with
      | .ok r S' => putBack S1 i t S' (noBo r)
      | .ex x S' => putBack S1 i t S' (.ex x)
      | .no => .no)
    | _, _ => .no)
  | _ => .no
theorem sl_lent {G H : Hp} {p : Addr} {vs : List V} {ws : List V} {ds es : List D} (l : Le G H) (hp : H p = some (.lst ws)) (hg : G p = none) (r0 : RL K G ds ws) (r : RL K G es vs) :
    SlOk K (fun _ => p) G H ((.ref p :: vs).map some) (.ol (some 0) ds :: es.map .f) := by
  have d := sl_data l r (τ := fun _ => p)
  refine ⟨by simp [r.len], l, fun i sv e => ?_, fun i j q a b => ?_⟩
  · cases i with
    | zero => cases e; exact ⟨p, ws, rfl, hp, hg, r0, fun _ _ => rfl⟩
    | succ i =>
      have e' : (es.map SV.f)[i]? = some sv := e
      have := d.ok i sv e'
      have q : vAt ((V.ref p :: vs).map some) (i + 1) = vAt (vs.map some) i := rfl
      rw [q]
      exact this
  · cases i with
    | zero =>
      cases j with
      | zero => rfl
      | succ j =>
        obtain ⟨sv, e, z⟩ := b
        have e' : (es.map SV.f)[j]? = some sv := e
        exact (ow_data (vs := vs) (ds := es) (p := q) ⟨j, sv, e', z⟩).elim
    | succ i =>
      obtain ⟨sv, e, z⟩ := a
      have e' : (es.map SV.f)[i]? = some sv := e
      exact (ow_data (vs := vs) (ds := es) (p := q) ⟨i, sv, e', z⟩).elim
theorem ow_lent {p q : Addr} {vs : List V} {ds es : List D} (h : Ow ((V.ref p :: vs).map some) (.ol (some 0) ds :: es.map .f) q) : q = p := by
  obtain ⟨i, sv, e, z⟩ := h
  cases i with
  | zero => cases e; cases z; rfl
  | succ i =>
    have e' : (es.map SV.f)[i]? = some sv := e
    exact (ow_data (vs := vs) (ds := es) (p := q) ⟨i, sv, e', z⟩).elim
theorem den_callB {n : Nat} {F : Sl → Rs RV} {t : TA} {fa : Sl → Rs (List NV)} (hn : LenA fa n) (q : DenA K W t fa) : Den K W (tCl (spD K n F) W t) (fCallB F fa) := by
  intro τ σ S G H s Q hq
  unfold fCallB at hq
  cases e0 : fa S with
  | no => simp only [e0, Rs.bind_no] at hq; exact hq.elim
  | ex x S1 =>
    simp only [e0, Rs.bind_ex] at hq
    refine q τ σ S G H s _ ?_
    rw [e0]
    exact hq
  | ok ns S1 =>
    simp only [e0, Rs.bind_ok] at hq
    refine q τ σ S G H s _ ?_
    rw [e0]
    intro vs G1 H1 P oa
    have hq1 := hq.back bkR P
    have s1 := P.sl
    have hlen : vs.length = n := by rw [oa.length]; exact hn _ _ _ e0
    cases oa with
    | nil => exact hq1.elim
    | cons a r =>
      rename_i v n0 vs rest
      cases n0 with
      | f d => exact hq1.elim
      | bo i =>
        cases e1 : S1[i]? with
        | none => simp only [e1] at hq1; exact hq1.elim
        | some sv =>
          cases e2 : dsOf rest with
          | none =>
            cases sv <;> simp only [e1, e2] at hq1 <;> exact hq1.elim
          | some es =>
            cases sv with
            | u => simp only [e1, e2] at hq1; exact hq1.elim
            | f d => simp only [e1, e2] at hq1; exact hq1.elim
            | od t ks ds => simp only [e1, e2] at hq1; exact hq1.elim
            | ol t ds =>
              simp only [e1, e2] at hq1
              obtain ⟨p, ws, h1, h2, h3, h4, h5, ow⟩ := ow_at s1 e1
              have ev : v = .ref p := by
                have a' : σ[i]? = some (some v) := a
                have h1' := vAt_some h1
                rw [a'] at h1'
                cases h1'
                rfl
              subst ev
              have rr := dsOf_ok r e2
              have fin : ∀ {S' G' H' ds'}, FPst (fun _ => p) K (Ow ((V.ref p :: vs).map some) (.ol (some 0) ds :: es.map .f)) G1 H1 S' G' H' → S'[0]? = some (.ol (some 0) ds') → Pst K τ σ S1 G1 H1 (S1.set i (.ol t ds')) G' H' := fun {S' G' H' ds'} fp e => by
                obtain ⟨vs', k1, k2, k3⟩ := fp.ol ds' e
                exact pst_put s1 ow (fp.st.imp fun q _ z => ow_lent z) fp.le ⟨p, vs', h1, k1, k2, k3, h5⟩ (by rw [h1]; rfl)
              refine ⟨hlen, fun _ => p, G1, _, sl_lent s1.le h2 h3 h4 rr, fun j sv ej => ?_, ?_⟩
              · cases j with
                | zero => cases ej; exact .inr ⟨rfl, .inl ⟨_, rfl⟩⟩
                | succ j =>
                  have ej' : (es.map SV.f)[j]? = some sv := ej
                  rw [List.getElem?_map] at ej'
                  cases q' : es[j]? with
                  | none => rw [q'] at ej'; cases ej'
                  | some d =>
                    rw [q'] at ej'
                    cases ej'
                    exact .inl ⟨_, rfl⟩
              · cases eF : F (.ol (some 0) ds :: es.map .f) with
                | no => simp only [eF] at hq1; exact hq1
                | ex x S' =>
                  simp only [eF, putBack] at hq1
                  intro c d G' H' fp xo
                  split at hq1
                  · rename_i ds' e
                    exact hq1 c d G' H' (fin fp e) xo
                  · exact hq1.elim
                | ok rr' S' =>
                  simp only [eF, putBack] at hq1
                  split at hq1
                  · rename_i ds' e
                    cases rr' with
                    | bo i => exact hq1
                    | f d => exact fun v G' H' fp ro fr => hq1 v G' H' (fin fp e) ⟨ro.any (fun _ z => nomatch z), fr⟩
                    | ol d => exact fun v G' H' fp ro fr => hq1 v G' H' (fin fp e) ⟨ro.any (fun _ z => nomatch z), fr⟩
                    | od k d => exact fun v G' H' fp ro fr => hq1 v G' H' (fin fp e) ⟨ro.any (fun _ z => nomatch z), fr⟩
                  · exact hq1.elim
section
variable {CX : CXT} {k k' : Nat} {ps : List Str} {F : Sl → Rs RV} {x : Str} {p pos : Pos} {e : Expr} {es : List Expr} {fa : Sl → Rs (List NV)}
theorem de_call (fd : Fd X.prog X.w X.K X.mg X.base CX k x ps F) (cg : Cg X.A k') (hk : k ≤ k') (hx : PassW CX X W) (hn : ps.length = (e :: es).length) (ha : DA X W (e :: es) fa) (hg : Gl X x := by rfl) (hdb : (x == ("__debug__" : Str)) = false := by decide)
    (he : starEach (e :: es) X.env = (false, eval e X.env) :: starEach es X.env := by rfl) (hpl : (backTo pos (starEach es X.env)).any (·.1) = false := by rfl) : DE X W (.Call (.Name x p) (e :: es) [] pos) (fCall F fa) := by
  obtain ⟨f, fdat, h1, h2, h3, h4, _⟩ := fd.ex
  obtain ⟨t, p1, q, ln⟩ := ha
  exact ⟨_, pe_cl h4 (cg.mono hk) h1 h2 h3 hx p1 hg hdb he hpl, den_call (by rw [hn]; exact ln) q⟩
theorem de_callB (fd : Fd X.prog X.w X.K X.mg X.base CX k x ps F) (cg : Cg X.A k') (hk : k ≤ k') (hx : PassW CX X W) (hn : ps.length = (e :: es).length) (ha : DA X W (e :: es) fa) (hg : Gl X x := by rfl) (hdb : (x == ("__debug__" : Str)) = false := by decide)
    (he : starEach (e :: es) X.env = (false, eval e X.env) :: starEach es X.env := by rfl) (hpl : (backTo pos (starEach es X.env)).any (·.1) = false := by rfl) : DE X W (.Call (.Name x p) (e :: es) [] pos) (fCallB F fa) := by
  obtain ⟨f, fdat, h1, h2, h3, h4, _⟩ := fd.ex
  obtain ⟨t, p1, q, ln⟩ := ha
  exact ⟨_, pe_cl h4 (cg.mono hk) h1 h2 h3 hx p1 hg hdb he hpl, den_callB (by rw [hn]; exact ln) q⟩
theorem de_call0 (fd : Fd X.prog X.w X.K X.mg X.base CX k x [] F) (cg : Cg X.A k') (hk : k ≤ k') (hx : PassW CX X W) (hg : Gl X x := by rfl) (hdb : (x == ("__debug__" : Str)) = false := by decide) : DE X W (.Call (.Name x p) [] [] pos) (fCall F fNil) := by
  obtain ⟨f, fdat, h1, h2, h3, h4, _⟩ := fd.ex
  obtain ⟨t, p1, q, ln⟩ := da_nil (X := X) (W := W)
  refine ⟨_, pe_cl0 h4 (cg.mono hk) h1 h2 h3 hx hg hdb, den_call (fun S ns S' e => by cases e; rfl) fun τ σ S G H s Q hq => hq [] G H (Pst.refl s) .nil⟩
end
/-! ### statements -/
inductive Out where
  | nx (S : Sl) | rt (r : RV) (S : Sl) | bk (S : Sl) | ct (S : Sl) | ex (x : XD) (S : Sl) | no
structure SPst (K : PySem.W.Frag) (τ : Nat → Addr) (σ : St) (S : Sl) (G H : Hp) (σ' : St) (S' : Sl) (G' H' : Hp) : Prop where
  st : Stp (Ow σ S) G H G' H'
  sl : SlOk K τ G' H' σ' S'
  ow : ∀ p, Ow σ' S' p → Ow σ S p ∨ H p = none
theorem Pst.s {τ : Nat → Addr} {σ : St} {S S' : Sl} {G H G' H' : Hp} (P : Pst K τ σ S G H S' G' H') : SPst K τ σ S G H σ S' G' H' := ⟨P.st, P.sl, fun p z => .inl (P.ow p z)⟩
theorem SPst.trans {τ : Nat → Addr} {σ σ1 σ2 : St} {S S1 S2 : Sl} {G H G1 H1 G2 H2 : Hp} (a : SPst K τ σ S G H σ1 S1 G1 H1) (b : SPst K τ σ1 S1 G1 H1 σ2 S2 G2 H2) : SPst K τ σ S G H σ2 S2 G2 H2 :=
  ⟨a.st.trans b.st a.ow, b.sl, fun p z => (b.ow p z).elim (a.ow p) fun y => .inr (none_back a.st.stay y)⟩
def Gs (K : PySem.W.Frag) (W : WX') (τ : Nat → Addr) (σ : St) (S : Sl) (G H : Hp) (o : Out) (D : Ends) : Prop := match o with
  | .nx S' => ∀ σ' G' H', SPst K τ σ S G H σ' S' G' H' → D.nx σ' H'
  | .rt r S' => ∀ v σ' G' H', SPst K τ σ S G H σ' S' G' H' → RVOk K G' H' σ' v r → (∀ p, ra v r = some p → (Ow σ S p ∨ H p = none) ∧ ¬ Ow σ' S' p) → D.rt v H'
  | .bk S' => ∀ σ' G' H', SPst K τ σ S G H σ' S' G' H' → D.bk σ' H'
  | .ct S' => ∀ σ' G' H', SPst K τ σ S G H σ' S' G' H' → D.ct σ' H'
  | .ex x S' => ∀ cls d σ' G' H', SPst K τ σ S G H σ' S' G' H' → XOk K G' H H' x cls d → W cls d σ' H'
  | .no => False
theorem Gs.back {τ : Nat → Addr} {σ σ1 : St} {S S1 : Sl} {G H G1 H1 : Hp} {o : Out} {D : Ends} (P : SPst K τ σ S G H σ1 S1 G1 H1) (h : Gs K W τ σ S G H o D) : Gs K W τ σ1 S1 G1 H1 o D := by
  cases o with
  | nx S' => exact fun σ' G' H' P' => h σ' G' H' (P.trans P')
  | rt r S' => exact fun v σ' G' H' P' o fr => h v σ' G' H' (P.trans P') o fun p e => ⟨(fr p e).1.elim (P.ow p) fun y => .inr (none_back P.st.stay y), (fr p e).2⟩
  | bk S' => exact fun σ' G' H' P' => h σ' G' H' (P.trans P')
  | ct S' => exact fun σ' G' H' P' => h σ' G' H' (P.trans P')
  | ex x S' => exact fun c d σ' G' H' P' o => h c d σ' G' H' (P.trans P') (o.back P.st.stay)
  | no => exact h
def DnS (K : PySem.W.Frag) (W : WX') (ts : TS) (F : Sl → Out) : Prop := ∀ τ σ S G H, SlOk K τ G H σ S → ∀ D : Ends, Gs K W τ σ S G H (F S) D → ts D σ H
def DS (X : Cx) (W : WX') (st : Stmt) (F : Sl → Out) : Prop := ∃ t, PS X st t ∧ DnS X.K W t F
def DSs (X : Cx) (W : WX') (st : List Stmt) (F : Sl → Out) : Prop := ∃ t, PSs X st t ∧ DnS X.K W t F
def bindS {α : Type} (r : Rs α) (k : α → Sl → Out) : Out := match r with
  | .ok a S => k a S
  | .ex x S => .ex x S
  | .no => .no
@[simp] theorem bindS_ok {α : Type} {a : α} {S : Sl} {k : α → Sl → Out} : bindS (.ok a S) k = k a S := rfl
@[simp] theorem bindS_ex {α : Type} {x : XD} {S : Sl} {k : α → Sl → Out} : bindS (.ex x S) k = .ex x S := rfl
@[simp] theorem bindS_no {α : Type} {k : α → Sl → Out} : bindS .no k = .no := rfl
/-- an expression, then a statement's rest -/
theorem Gs.cases {α β : Type} {ok1 : Okk α β} {t : L2.St → Hp → (β → Hp → Prop) → Prop} {f : Sl → Rs α} {τ : Nat → Addr} {σ : St} {S : Sl} {G H : Hp} {k : α → Sl → Out} {D : Ends} {Q1 : β → Hp → Prop}
    (hf : Dn ok1 K W t f) (s : SlOk K τ G H σ S) (hq : Gs K W τ σ S G H (bindS (f S) k) D)
    (hk : ∀ x a S1 G1 H1, SlOk K τ G1 H1 σ S1 → Pst K τ σ S G H S1 G1 H1 → ok1 K σ H G1 H1 x a → Gs K W τ σ S1 G1 H1 (k a S1) D → Q1 x H1) : t σ H Q1 := by
  refine hf τ σ S G H s _ ?_
  cases e : f S with
  | ok a S1 =>
    simp only [e, bindS_ok] at hq
    exact fun x G1 H1 P o => hk x a S1 G1 H1 P.sl P o (hq.back P.s)
  | ex x S1 =>
    simp only [e, bindS_ex] at hq
    exact fun c d G' H' P o => hq c d σ G' H' P.s o
  | no =>
    simp only [e, bindS_no] at hq
    exact hq.elim
theorem SPst.refl {τ : Nat → Addr} {σ : St} {S : Sl} {G H : Hp} (s : SlOk K τ G H σ S) : SPst K τ σ S G H σ S G H := (Pst.refl s).s
variable {e a b c : Expr} {es : List Expr} {f g h : Sl → Rs RV} {f1 g1 h1 : Sl → Rs NV} {fb gb : Sl → Rs Bool} {pos : Pos} {st : Stmt} {rest p q : List Stmt} {F F2 : Sl → Out}
def sNext : Sl → Out := fun S => .nx S
def sSeq (F F2 : Sl → Out) : Sl → Out := fun S => match F S with
  | .nx S1 => F2 S1
  | o => o
theorem dss_nil : DSs X W [] sNext := ⟨_, pss_nil, fun τ σ S G H s D hq => hq σ G H (SPst.refl s)⟩
theorem dss_one (h : DS X W st F) : DSs X W [st] F := let ⟨_, p, q⟩ := h; ⟨_, pss_one p, q⟩
theorem dss_cons (h : DS X W st F) (h2 : DSs X W rest F2) : DSs X W (st :: rest) (sSeq F F2) := by
  obtain ⟨t, p, q⟩ := h
  obtain ⟨t2, p2, q2⟩ := h2
  refine ⟨_, pss_cons p p2, fun τ σ S G H s D hq => q τ σ S G H s { D with nx := t2 D } ?_⟩
  unfold sSeq at hq
  cases e : F S with
  | nx S1 =>
    simp only [e] at hq
    exact fun σ1 G1 H1 P => q2 τ σ1 S1 G1 H1 P.sl D (hq.back P)
  | rt r S1 => simp only [e] at hq; exact hq
  | bk S1 => simp only [e] at hq; exact hq
  | ct S1 => simp only [e] at hq; exact hq
  | ex x S1 => simp only [e] at hq; exact hq
  | no => simp only [e] at hq; exact hq
theorem ds_pass : DS X W (.Pass pos) sNext := ⟨_, ps_pass, fun τ σ S G H s D hq => hq σ G H (SPst.refl s)⟩
theorem ds_break : DS X W (.Break pos) (fun S => .bk S) := ⟨_, ps_break, fun τ σ S G H s D hq => hq σ G H (SPst.refl s)⟩
theorem ds_continue : DS X W (.Continue pos) (fun S => .ct S) := ⟨_, ps_continue, fun τ σ S G H s D hq => hq σ G H (SPst.refl s)⟩
theorem ds_doc {x j} {pos' : Pos} : DS X W (.Expr (.Constant (.str x) j pos) pos') sNext := ⟨_, ps_doc, fun τ σ S G H s D hq => hq σ G H (SPst.refl s)⟩
/-- a statement that is not reached -/
theorem ds_never : DS X W st (fun _ => .no) := ⟨_, ps_never, fun τ σ S G H s D hq => hq.elim⟩
def sDrop (f : Sl → Rs RV) : Sl → Out := fun S => bindS (f S) fun _ S1 => .nx S1
theorem ds_expr (h : DE X W e f) (hs : swapsWith e none pos.line X.env = pure false := by rfl) : DS X W (.Expr e pos) (sDrop f) := by
  obtain ⟨t, p, q⟩ := h
  exact ⟨_, ps_expr p hs, fun τ σ S G H s D hq => Gs.cases (Q1 := fun _ H1 => D.nx σ H1) q s hq fun x a S1 G1 H1 s1 P o r => r σ G1 H1 (SPst.refl s1)⟩
/-- what is handed back: a slot's own list is moved out -/
def rtOut (r : RV) (S : Sl) : Out := match r with
  | .bo i => (match S[i]? with
    | some (.ol none ds) => .rt (.ol ds) (S.set i .u)
    | some (.od none ks ds) => .rt (.od ks ds) (S.set i .u)
    | _ => .no)
  | r => .rt r S
def sRet (f : Sl → Rs RV) : Sl → Out := fun S => bindS (f S) rtOut
theorem sl_drop {τ : Nat → Addr} {G H : Hp} {σ : St} {S : Sl} (i : Nat) (s : SlOk K τ G H σ S) : SlOk K τ G H σ (S.set i .u) ∧ (∀ j q, OwAt σ (S.set i .u) j q → OwAt σ S j q ∧ j ≠ i) := by
  have back : ∀ j q, OwAt σ (S.set i .u) j q → OwAt σ S j q ∧ j ≠ i := fun j q ⟨sv, h1, h2⟩ => by
    rcases getElem?_set_of h1 with ⟨_, e⟩ | ⟨ne, e⟩
    · subst e; cases h2
    · exact ⟨⟨sv, e, h2⟩, ne⟩
  refine ⟨⟨by rw [List.length_set]; exact s.len, s.le, fun j sv e => ?_, fun j k q a b => s.ap j k q (back j q a).1 (back k q b).1⟩, back⟩
  rcases getElem?_set_of e with ⟨rfl, rfl⟩ | ⟨ne, e⟩
  · trivial
  · exact s.ok j sv e
theorem ds_ret (h : DE X W e f) : DS X W (.Return (some e) pos) (sRet f) := by
  obtain ⟨t, p, q⟩ := h
  refine ⟨_, ps_ret p, fun τ σ S G H s D hq => q τ σ S G H s D.rt ?_⟩
  unfold sRet at hq
  cases e0 : f S with
  | no => simp only [e0, bindS_no] at hq; exact hq.elim
  | ex x S1 => simp only [e0, bindS_ex] at hq; exact fun c d G' H' P o => hq c d σ G' H' P.s o
  | ok r S1 =>
    simp only [e0, bindS_ok] at hq
    intro v G1 H1 P o
    have fresh : ∀ p, ra v r = some p → (Ow σ S p ∨ H p = none) ∧ ¬ Ow σ S1 p := fun p e => ⟨.inr (o.2 p e), fun z => (s.owned (P.ow p z)).1 (o.2 p e)⟩
    cases r with
    | f d => exact hq v σ G1 H1 P.s o.1 fresh
    | ol d => exact hq v σ G1 H1 P.s o.1 fresh
    | od k d => exact hq v σ G1 H1 P.s o.1 fresh
    | bo i =>
      have oi : σ[i]? = some (some v) := o.1
      unfold rtOut at hq
      simp only at hq
      cases e1 : S1[i]? with
      | none => simp only [e1] at hq; exact hq.elim
      | some sv =>
        obtain ⟨s2, back⟩ := sl_drop i P.sl
        have P2 : SPst X.K τ σ S G H σ (S1.set i .u) G1 H1 := ⟨P.st, s2, fun p ⟨j, z⟩ => .inl (P.ow p ⟨j, (back j p z).1⟩)⟩
        cases sv with
        | u => simp only [e1] at hq; exact hq.elim
        | f d => simp only [e1] at hq; exact hq.elim
        | ol t ds =>
          cases t with
          | some j => simp only [e1] at hq; exact hq.elim
          | none =>
            simp only [e1] at hq
            obtain ⟨p, vs, h1, h2, h3, h4, h5, ow⟩ := ow_at P.sl e1
            have ev := vAt_some h1
            rw [oi] at ev
            cases ev
            refine hq _ σ G1 H1 P2 ⟨p, vs, rfl, h2, h3, h4⟩ fun q eq => ?_
            cases eq
            exact ⟨.inl (P.ow p ⟨i, ow⟩), fun ⟨j, z⟩ => (back j p z).2 (P.sl.ap j i p (back j p z).1 ow)⟩
        | od t ks ds =>
          cases t with
          | some j => simp only [e1] at hq; exact hq.elim
          | none =>
            simp only [e1] at hq
            obtain ⟨p, vs, h1, h2, h3, h4, h5, h6, ow⟩ := ow_atD P.sl e1
            have ev := vAt_some h1
            rw [oi] at ev
            cases ev
            refine hq _ σ G1 H1 P2 ⟨p, vs, rfl, h2, h3, h4, h5⟩ fun q eq => ?_
            cases eq
            exact ⟨.inl (P.ow p ⟨i, ow⟩), fun ⟨j, z⟩ => (back j p z).2 (P.sl.ap j i p (back j p z).1 ow)⟩
theorem ds_retN : DS X W (.Return none pos) (fun S => .rt (.f .non) S) := ⟨_, ps_retN, fun τ σ S G H s D hq => hq .non σ G H (SPst.refl s) rfl fun _ z => nomatch z⟩
def sIf (c : Sl → Rs Bool) (F F2 : Sl → Out) : Sl → Out := fun S => bindS (c S) fun b S1 => if b = true then F S1 else F2 S1
theorem ds_if (hc : DT X W c fb) (hp : DSs X W p F) (hq' : DSs X W q F2) : DS X W (.If c p q pos) (sIf fb F F2) := by
  obtain ⟨tc, pc, qc⟩ := hc
  obtain ⟨tp, pp, qp⟩ := hp
  obtain ⟨tq, pq, qq⟩ := hq'
  refine ⟨_, ps_if pc pp pq, fun τ σ S G H s D hq => Gs.cases (Q1 := fun b H1 => if b = true then tp D σ H1 else tq D σ H1) qc s hq fun x b S1 G1 H1 s1 P o r => ?_⟩
  cases (show x = b from o)
  cases x with
  | true => exact qp τ σ S1 G1 H1 s1 D r
  | false => exact qq τ σ S1 G1 H1 s1 D r
/-! ### a name is stored -/
def svOf : RV → Option SV
  | .f d => some (.f d)
  | .ol ds => some (.ol none ds)
  | .od ks ds => some (.od none ks ds)
  | .bo _ => none
def setR (i : Nat) (r : RV) (S : Sl) : Out := match svOf r with
  | some sv => .nx (S.set i sv)
  | none => .no
theorem vAt_set_ne {σ : St} {i j : Nat} {v : Option V} (h : j ≠ i) : vAt (σ.set i v) j = vAt σ j := by
  unfold vAt
  rw [List.getElem?_set_ne (Ne.symm h)]
theorem vAt_set {σ : St} {i : Nat} {v : V} (h : i < σ.length) : vAt (σ.set i (some v)) i = some v := by
  unfold vAt
  rw [List.getElem?_set_self h]
  rfl
/-- slot i gets a value that no slot owns -/
theorem sl_set {τ : Nat → Addr} {G H : Hp} {σ : St} {S : Sl} {i : Nat} {v : V} {sv : SV} (s : SlOk K τ G H σ S) (h : SOk K τ G H (some v) sv) (n : ∀ p, oa (some v) sv = some p → ¬ Ow σ S p) :
    SlOk K τ G H (σ.set i (some v)) (S.set i sv) ∧ ∀ p, Ow (σ.set i (some v)) (S.set i sv) p → Ow σ S p ∨ oa (some v) sv = some p := by
  have at_ : ∀ j q, OwAt (σ.set i (some v)) (S.set i sv) j q → (j = i ∧ oa (some v) sv = some q) ∨ (j ≠ i ∧ OwAt σ S j q) := fun j q ⟨sw, e1, e2⟩ => by
    rcases getElem?_set_of e1 with ⟨rfl, rfl⟩ | ⟨ne, e⟩
    · have hj : j < σ.length := by
        rw [s.len]
        have := (List.getElem?_eq_some_iff.mp e1).1
        simpa using this
      rw [vAt_set hj] at e2
      exact .inl ⟨rfl, e2⟩
    · rw [vAt_set_ne ne] at e2
      exact .inr ⟨ne, sw, e, e2⟩
  refine ⟨⟨by rw [List.length_set, List.length_set]; exact s.len, s.le, fun j sw e => ?_, fun j k q a b => ?_⟩, fun q ⟨j, z⟩ => ?_⟩
  · rcases getElem?_set_of e with ⟨rfl, rfl⟩ | ⟨ne, e'⟩
    · have hj : j < σ.length := by
        rw [s.len]
        have := (List.getElem?_eq_some_iff.mp e).1
        simpa using this
      rw [vAt_set hj]
      exact h
    · rw [vAt_set_ne ne]
      exact s.ok j sw e'
  · rcases at_ j q a with ⟨ej, a1⟩ | ⟨nj, a1⟩
    · rcases at_ k q b with ⟨ek, b1⟩ | ⟨nk, b1⟩
      · rw [ej, ek]
      · exact absurd ⟨k, b1⟩ (n q a1)
    · rcases at_ k q b with ⟨ek, b1⟩ | ⟨nk, b1⟩
      · exact absurd ⟨j, a1⟩ (n q b1)
      · exact s.ap j k q a1 b1
  · rcases at_ j q z with ⟨_, a1⟩ | ⟨_, a1⟩
    · exact .inr a1
    · exact .inl ⟨j, a1⟩
theorem sok_rv {τ : Nat → Addr} {G H : Hp} {σ : St} {v : V} {r : RV} {sv : SV} (h : RVOk K G H σ v r) (e : svOf r = some sv) : SOk K τ G H (some v) sv ∧ oa (some v) sv = ra v r := by
  cases r with
  | bo i => cases e
  | f d => cases e; exact ⟨⟨v, rfl, h⟩, rfl⟩
  | ol ds =>
    cases e
    obtain ⟨p, vs, rfl, h1, h2, h3⟩ := h
    exact ⟨⟨p, vs, rfl, h1, h2, h3, fun _ z => nomatch z⟩, rfl⟩
  | od ks ds =>
    cases e
    obtain ⟨p, vs, rfl, h1, h2, h3, h4⟩ := h
    exact ⟨⟨p, vs, rfl, h1, h2, h3, h4, fun _ z => nomatch z⟩, rfl⟩
/-- a value that is new to the slots of S (start heap H) is stored -/
theorem spst_set {τ : Nat → Addr} {G H G1 H1 : Hp} {σ : St} {S S1 : Sl} {i : Nat} {v : V} {r : RV} {sv : SV} (s : SlOk K τ G H σ S) (P : Pst K τ σ S G H S1 G1 H1) (o : okR K σ H G1 H1 v r) (e : svOf r = some sv) : SPst K τ σ S G H (σ.set i (some v)) (S1.set i sv) G1 H1 := by
  obtain ⟨k1, k2⟩ := sok_rv (τ := τ) o.1 e
  obtain ⟨s2, ow⟩ := sl_set (i := i) P.sl k1 fun p hp z => (s.owned (P.ow p z)).1 (o.2 p (by rw [← k2]; exact hp))
  exact ⟨P.st, s2, fun p z => (ow p z).imp (P.ow p) fun hp => o.2 p (by rw [← k2]; exact hp)⟩
def sSet (i : Nat) (f : Sl → Rs RV) : Sl → Out := fun S => bindS (f S) (setR i)
theorem den_asg {te : TE} (i : Nat) (q : Den K W te f) : DnS K W (tAsg te (gName i)) (sSet i f) := by
  intro τ σ S G H s D hq
  refine q τ σ S G H s (fun x H1 => D.nx (σ.set i (some x)) H1) ?_
  unfold sSet at hq
  cases e0 : f S with
  | no => simp only [e0, bindS_no] at hq; exact hq.elim
  | ex x S1 => simp only [e0, bindS_ex] at hq; exact fun c d G' H' P o => hq c d σ G' H' P.s o
  | ok r S1 =>
    simp only [e0, bindS_ok] at hq
    intro v G1 H1 P o
    unfold setR at hq
    cases e1 : svOf r with
    | none => simp only [e1] at hq; exact hq.elim
    | some sv =>
      simp only [e1] at hq
      exact hq _ G1 H1 (spst_set s P o e1)
theorem ds_set (i : Nat) {y : Str} {pos' : Pos} (nd : X.N.Nodup) (h : DE X W e f) (hN : X.N[i]? = some y := by rfl) (hx : Loc X.env.scope y := by first | exact Or.inl rfl | exact Or.inr rfl)
    (hf : X.fn y = true ∨ X.env.scope.names.lookup y = some .local := by first | exact .inl rfl | exact .inr rfl | assumption)
    (hs : swapsWith e (some (.Name y pos')) pos.line X.env = pure false := by rfl) : DS X W (.Assign [.Name y pos'] e pos) (sSet i f) := by
  obtain ⟨t, p, q⟩ := h
  exact ⟨_, ps_set (i := i) nd hN hx p hs hf, den_asg i q⟩
end
end DL
set_option Elab.async false
set_option linter.all false
set_option maxRecDepth 100000
set_option maxHeartbeats 4000000
/-! DL6: targets, stores in parallel, what a for walks, for, while, list comprehensions, a def by its body. -/
namespace DL
open PySem L2
open PyProof.Rows (envOfC)
section
variable {X : Cx} {W : WX'} {K : PySem.W.Frag}
variable {e a b c iter tg elt : Expr} {es : List Expr} {f g h : Sl → Rs RV} {f1 g1 h1 : Sl → Rs NV} {fb gb : Sl → Rs Bool} {pos : Pos} {st : Stmt} {rest p q body : List Stmt} {F F2 : Sl → Out}
/-! ### targets: data comes in, names are stored -/
/-- is: the slots that are stored -/
def GOk (K : PySem.W.Frag) (g : TG) (is : List Nat) (bind : D → Sl → Option Sl) : Prop :=
  ∀ τ σ S G H d v S', SlOk K τ G H σ S → R K G d v → bind d S = some S' → ∀ Q : L2.St → Hp → Prop,
    (∀ σ', SlOk K τ G H σ' S' → (∀ p, Ow σ' S' p → Ow σ S p) → σ'.length = σ.length → (∀ j, j ∉ is → σ'[j]? = σ[j]? ∧ S'[j]? = S[j]?) → Q σ' H) → g v σ H Q
def bName (i : Nat) (d : D) (S : Sl) : Option Sl := some (S.set i (.f d))
theorem go_name (i : Nat) : GOk K (gName i) [i] (bName i) := by
  intro τ σ S G H d v S' s r e Q hQ
  cases e
  obtain ⟨s2, ow⟩ := sl_set (i := i) s (sv := .f d) ⟨v, rfl, r⟩ (fun _ z => nomatch z)
  refine hQ _ s2 (fun p z => (ow p z).elim id fun y => nomatch y) (by rw [List.length_set]) fun j hj => ?_
  have hne : i ≠ j := fun z => hj (by rw [z]; simp)
  exact ⟨List.getElem?_set_ne hne, List.getElem?_set_ne hne⟩
def GsOk (K : PySem.W.Frag) (g : TGs) (is : List Nat) (bind : List D → Sl → Option Sl) : Prop :=
  ∀ τ σ S G H ds vs S', SlOk K τ G H σ S → RL K G ds vs → bind ds S = some S' → ∀ Q : L2.St → Hp → Prop,
    (∀ σ', SlOk K τ G H σ' S' → (∀ p, Ow σ' S' p → Ow σ S p) → σ'.length = σ.length → (∀ j, j ∉ is → σ'[j]? = σ[j]? ∧ S'[j]? = S[j]?) → Q σ' H) → g vs σ H Q
def bNil (ds : List D) (S : Sl) : Option Sl := match ds with
  | [] => some S
  | _ => none
def bCons (t : D → Sl → Option Sl) (u : List D → Sl → Option Sl) (ds : List D) (S : Sl) : Option Sl := match ds with
  | d :: r => (t d S).bind (u r)
  | [] => none
def bTup (u : List D → Sl → Option Sl) (d : D) (S : Sl) : Option Sl := match d with
  | .tup ds => u ds S
  | _ => none
theorem go_nil : GsOk K gNil [] bNil := by
  intro τ σ S G H ds vs S' s r e Q hQ
  cases ds with
  | cons d ds => cases e
  | nil =>
    cases e
    simp only [RL, R.RL] at r
    exact ⟨r, hQ σ s (fun _ z => z) rfl fun _ _ => ⟨rfl, rfl⟩⟩
theorem go_cons {t : TG} {u : TGs} {is js : List Nat} {bt : D → Sl → Option Sl} {bu : List D → Sl → Option Sl} (h1 : GOk K t is bt) (h2 : GsOk K u js bu) : GsOk K (gCons t u) (is ++ js) (bCons bt bu) := by
  intro τ σ S G H ds vs S' s r e Q hQ
  cases ds with
  | nil => cases e
  | cons d ds =>
    simp only [RL, R.RL] at r
    obtain ⟨v, vr, rfl, r1, r2⟩ := r
    simp only [bCons] at e
    cases e1 : bt d S with
    | none => rw [e1] at e; cases e
    | some S1 =>
      rw [e1] at e
      refine ⟨v, vr, rfl, h1 τ σ S G H d v S1 s r1 e1 _ fun σ1 s1 ow1 l1 k1 => ?_⟩
      refine h2 τ σ1 S1 G H ds vr S' s1 r2 e Q fun σ2 s2 ow2 l2 k2 => ?_
      refine hQ σ2 s2 (fun p z => ow1 p (ow2 p z)) (l2.trans l1) fun j hj => ?_
      simp only [List.mem_append, not_or] at hj
      exact ⟨(k2 j hj.2).1.trans (k1 j hj.1).1, (k2 j hj.2).2.trans (k1 j hj.1).2⟩
theorem go_tup {n : Nat} {u : TGs} {js : List Nat} {bu : List D → Sl → Option Sl} (h : GsOk K u js bu) (hl : ∀ ds S S', bu ds S = some S' → ds.length = n) : GOk K (gTup K n u) js (bTup bu) := by
  intro τ σ S G H d v S' s r e Q hQ
  cases d <;> try (cases e; done)
  rename_i ds
  simp only [R] at r
  obtain ⟨a, vs, rfl, h1, h2⟩ := r
  have e' : bu ds S = some S' := e
  exact ⟨a, vs, rfl, s.le.sqt h1, (RL.len h2).trans (hl _ _ _ e'), h τ σ S G H ds vs S' s h2 e' Q hQ⟩
theorem blen_nil : ∀ ds S S', bNil ds S = some S' → ds.length = 0 := fun ds S S' e => by
  cases ds with
  | nil => rfl
  | cons _ _ => cases e
theorem blen_cons {t : D → Sl → Option Sl} {u : List D → Sl → Option Sl} {n : Nat} (h : ∀ ds S S', u ds S = some S' → ds.length = n) : ∀ ds S S', bCons t u ds S = some S' → ds.length = n + 1 := fun ds S S' e => by
  cases ds with
  | nil => cases e
  | cons d r =>
    simp only [bCons] at e
    cases e1 : t d S with
    | none => rw [e1] at e; cases e
    | some S1 =>
      rw [e1] at e
      show r.length + 1 = n + 1
      rw [h _ _ _ e]
def DG (X : Cx) (tg : Expr) (g : TG) (is : List Nat) (bind : D → Sl → Option Sl) : Prop := PG X tg g ∧ GOk X.K g is bind
def DGs (X : Cx) (tgs : List Expr) (g : TGs) (is : List Nat) (bind : List D → Sl → Option Sl) : Prop := PGs X tgs g ∧ GsOk X.K g is bind ∧ ∀ ds S S', bind ds S = some S' → ds.length = tgs.length
theorem dg_name (i : Nat) {y : Str} (nd : X.N.Nodup) (hN : X.N[i]? = some y := by rfl) (hx : L2.Loc X.env.scope y := by first | exact Or.inl rfl | exact Or.inr rfl)
    (hf : X.fn y = true ∨ X.env.scope.names.lookup y = some .local := by first | exact .inl rfl | exact .inr rfl | assumption) : DG X (.Name y pos) (gName i) [i] (bName i) := ⟨pg_name nd hN hx hf, go_name i⟩
theorem dgs_nil : DGs X [] gNil [] bNil := ⟨pgs_nil, go_nil, blen_nil⟩
theorem dgs_cons {t : TG} {u : TGs} {is js : List Nat} {bt : D → Sl → Option Sl} {bu : List D → Sl → Option Sl} (h1 : DG X e t is bt) (h2 : DGs X es u js bu)
    (hs : (assignEach (e :: es) X.env).map (·.2) = assign e X.env :: (assignEach es X.env).map (·.2) := by rfl) : DGs X (e :: es) (gCons t u) (is ++ js) (bCons bt bu) := ⟨pgs_cons h1.1 h2.1 hs, go_cons h1.2 h2.2.1, blen_cons h2.2.2⟩
theorem dg_tup {k : Nat} {u : TGs} {js : List Nat} {bu : List D → Sl → Option Sl} (hc : X.calm = true) (h : DGs X es u js bu) (hn : (assignEach es X.env).length = es.length := by rfl) (hst : (assignEach es X.env).findIdx? (·.1) = none := by rfl) :
    DG X (.Tuple es k pos) (gTup X.K es.length u) js (bTup bu) := ⟨pg_tup hc h.1 hn hst, go_tup h.2.1 h.2.2⟩
/-- a, b = e -/
def sAsg (bind : D → Sl → Option Sl) (f : Sl → Rs NV) : Sl → Out := fun S => bindS (f S) fun n S1 => match n with
  | .f d => (match bind d S1 with
    | some S2 => .nx S2
    | none => .no)
  | .bo _ => .no
theorem ds_asg {g : TG} {is : List Nat} {bind : D → Sl → Option Sl} (he : DN X W e f1) (hg : DG X tg g is bind) (hs : swapsWithSole [tg] e pos.line X.env = pure false := by rfl) (hw : swappedStores [tg] e X.env = pure none := by rfl)
    (h1 : (assignEach [tg] X.env).map (·.2) = [assign tg X.env] := by rfl) : DS X W (.Assign [tg] e pos) (sAsg bind f1) := by
  obtain ⟨t, p, q⟩ := he
  refine ⟨_, ps_asg p hg.1 hs hw h1, fun τ σ S G H s D hq => Gs.cases (Q1 := fun x H1 => g x σ H1 D.nx) q s hq fun x n S1 G1 H1 s1 P o r => ?_⟩
  cases n with
  | bo i => exact r.elim
  | f d =>
    cases e1 : bind d S1 with
    | none => simp only [e1] at r; exact r.elim
    | some S2 =>
      simp only [e1] at r
      exact hg.2 τ σ S1 G1 H1 d x S2 s1 o e1 D.nx fun σ2 s2 ow _ _ => r σ2 G1 H1 ⟨Stp.refl, s2, fun p z => .inl (ow p z)⟩
/-! ### names stored in parallel -/
def ras : List V → List RV → List Addr
  | v :: vs, r :: rs => (ra v r).toList ++ ras vs rs
  | _, _ => []
abbrev okAR : Okk (List RV) (List V) := fun K σ H G' H' vs rs => Paired (RVOk K G' H' σ) vs rs ∧ (∀ p ∈ ras vs rs, H p = none) ∧ (ras vs rs).Nodup
theorem bkAR : Bk okAR := fun _ _ _ _ _ _ _ _ k h => ⟨h.1, fun p e => none_back k (h.2.1 p e), h.2.2⟩
def DAR (X : Cx) (W : WX') (es : List Expr) (f : Sl → Rs (List RV)) : Prop := ∃ t, PA X es t ∧ Dn okAR X.K W t f
def fNilR : Sl → Rs (List RV) := fun S => .ok [] S
def fConsR (f : Sl → Rs RV) (g : Sl → Rs (List RV)) : Sl → Rs (List RV) := fun S => (f S).bind fun n S1 => (g S1).bind fun ns S2 => .ok (n :: ns) S2
theorem RVOk.keep {G H G' H' : Hp} {σ : L2.St} {v : V} {r : RV} {O : Addr → Prop} (h : RVOk K G H σ v r) (st : Stp O G H G' H') (no : ∀ p, ra v r = some p → ¬ O p) : RVOk K G' H' σ v r := by
  cases r with
  | f d => exact R.mono st.ext _ _ h
  | bo i => exact h
  | ol ds =>
    obtain ⟨p, vs, rfl, h1, h2, h3⟩ := h
    obtain ⟨k1, k2⟩ := st.keep p (by rw [h1]; simp) (no p rfl)
    exact ⟨p, vs, rfl, (k1.own h2).trans h1, k2.trans h2, RL.mono st.ext _ _ h3⟩
  | od ks ds =>
    obtain ⟨p, vs, rfl, h1, h2, h3, h4⟩ := h
    obtain ⟨k1, k2⟩ := st.keep p (by rw [h1]; simp) (no p rfl)
    exact ⟨p, vs, rfl, (k1.own h2).trans h1, k2.trans h2, h3, RL.mono st.ext _ _ h4⟩
theorem RVOk.there {G H : Hp} {σ : L2.St} {v : V} {r : RV} {p : Addr} (h : RVOk K G H σ v r) (e : ra v r = some p) : H p ≠ none := by
  cases r with
  | f d => cases e
  | bo i => cases e
  | ol ds =>
    obtain ⟨q, vs, rfl, h1, _⟩ := h
    cases e
    rw [h1]
    simp
  | od ks ds =>
    obtain ⟨q, vs, rfl, h1, _⟩ := h
    cases e
    rw [h1]
    simp
theorem dar_nil : DAR X W [] fNilR := ⟨_, pa_nil, fun τ σ S G H s Q hq => hq [] G H (Pst.refl s) ⟨.nil, fun _ z => by simp [ras] at z, by simp [ras]⟩⟩
theorem dar_cons {fa : Sl → Rs (List RV)} (ha : DE X W e f) (hb : DAR X W es fa) (hs : starEach (e :: es) X.env = (false, eval e X.env) :: starEach es X.env := by rfl) : DAR X W (e :: es) (fConsR f fa) := by
  obtain ⟨ta, p, q⟩ := ha
  obtain ⟨tr, p1, q1⟩ := hb
  refine ⟨_, pa_cons p p1 hs, fun τ σ S G H s Q hq => q τ σ S G H s _ ?_⟩
  unfold fConsR at hq
  cases e1 : f S with
  | no => simp only [e1, Rs.bind_no] at hq; exact hq
  | ex x S1 => simp only [e1, Rs.bind_ex] at hq; exact hq
  | ok r S1 =>
    simp only [e1, Rs.bind_ok] at hq
    intro x G1 H1 P o
    refine q1 τ σ S1 G1 H1 P.sl _ ?_
    cases e2 : fa S1 with
    | no => simp only [e2, Rs.bind_no] at hq; exact hq
    | ex x S2 =>
      simp only [e2, Rs.bind_ex] at hq
      exact fun c d G' H' P' o' => hq c d G' H' (P.trans P') (o'.back P.st.stay)
    | ok rs S2 =>
      simp only [e2, Rs.bind_ok] at hq
      intro xs G2 H2 P2 o2
      have no : ∀ p, ra x r = some p → ¬ Ow σ S1 p := fun p e z => (s.owned (P.ow p z)).1 (o.2 p e)
      refine hq _ G2 H2 (P.trans P2) ⟨.cons (o.1.keep P2.st no) o2.1, fun p hp => ?_, ?_⟩
      · simp only [ras, List.mem_append, Option.mem_toList] at hp
        rcases hp with hp | hp
        · exact o.2 p hp
        · exact none_back P.st.stay (o2.2.1 p hp)
      · simp only [ras]
        rw [List.nodup_append]
        refine ⟨?_, o2.2.2, fun p hp q hq' e => ?_⟩
        · cases ra x r <;> simp
        · subst e
          exact o.1.there (by simpa using hp) (o2.2.1 p hq')
/-- the slots is get the results rs, from the left -/
def setsR : List Nat → List RV → Sl → Option Sl
  | i :: is, r :: rs, S => (svOf r).bind fun sv => setsR is rs (S.set i sv)
  | [], [], S => some S
  | _, _, _ => none
def setsV : List Nat → List V → L2.St → L2.St
  | i :: is, v :: vs, σ => setsV is vs (σ.set i (some v))
  | _, _, σ => σ
theorem sets_ok {τ : Nat → Addr} {G H : Hp} {σ0 : L2.St} : ∀ {is : List Nat} {vs : List V} {rs : List RV} {σ : L2.St} {S S' : Sl}, SlOk K τ G H σ S → Paired (RVOk K G H σ0) vs rs → (∀ p ∈ ras vs rs, ¬ Ow σ S p) → (ras vs rs).Nodup → setsR is rs S = some S' →
    SlOk K τ G H (setsV is vs σ) S' ∧ ∀ p, Ow (setsV is vs σ) S' p → Ow σ S p ∨ p ∈ ras vs rs
  | [], _, _, σ, S, S', s, .nil, _, _, e => by
    cases e
    exact ⟨s, fun p z => .inl z⟩
  | [], _, _, _, _, _, _, .cons _ _, _, _, e => by cases e
  | _ :: _, _, _, _, _, _, _, .nil, _, _, e => by cases e
  | i :: is, v :: vs, r :: rs, σ, S, S', s, .cons o t, n, nd, e => by
    simp only [setsR] at e
    cases q : svOf r with
    | none => rw [q] at e; cases e
    | some sv =>
      rw [q] at e
      obtain ⟨k1, k2⟩ := sok_rv (τ := τ) o q
      simp only [ras, List.mem_append, Option.mem_toList] at n
      simp only [ras] at nd
      rw [List.nodup_append] at nd
      obtain ⟨s2, ow⟩ := sl_set (i := i) s k1 fun p hp => n p (.inl (by rw [← k2]; exact hp))
      obtain ⟨s3, ow3⟩ := sets_ok (is := is) s2 t (fun p hp z => (ow p z).elim (n p (.inr hp)) fun z => nd.2.2 p (by rw [← k2, z]; simp) p hp rfl) nd.2.1 e
      refine ⟨s3, fun p z => ?_⟩
      rcases ow3 p z with y | y
      · rcases ow p y with x | x
        · exact .inl x
        · refine .inr ?_
          simp only [ras, List.mem_append, Option.mem_toList]
          exact .inl (by rw [← k2]; exact x)
      · refine .inr ?_
        simp only [ras, List.mem_append]
        exact .inr y
def sPar (is : List Nat) (f : Sl → Rs (List RV)) : Sl → Out := fun S => bindS (f S) fun rs S1 => match setsR is rs S1 with
  | some S2 => .nx S2
  | none => .no
theorem den_par {t : TA} {fa : Sl → Rs (List RV)} {is : List Nat} {ts : TS} (Qf : Ends → L2.St → List V → Hp → Prop) (q : Dn okAR K W t fa) (ht : ∀ (D : Ends) σ H, t σ H (Qf D σ) → ts D σ H) (hQ : ∀ (D : Ends) σ vs H1, vs.length = is.length → D.nx (setsV is vs σ) H1 → Qf D σ vs H1) :
    DnS K W ts (sPar is fa) := by
  intro τ σ S G H s D hq
  refine ht D σ H (q τ σ S G H s _ ?_)
  unfold sPar at hq
  cases e0 : fa S with
  | no => simp only [e0, bindS_no] at hq; exact hq.elim
  | ex x S1 => simp only [e0, bindS_ex] at hq; exact fun c d G' H' P o => hq c d σ G' H' P.s o
  | ok rs S1 =>
    simp only [e0, bindS_ok] at hq
    intro vs G1 H1 P o
    cases e1 : setsR is rs S1 with
    | none => simp only [e1] at hq; exact hq.elim
    | some S2 =>
      simp only [e1] at hq
      have no : ∀ p ∈ ras vs rs, ¬ Ow σ S1 p := fun p hp z => (s.owned (P.ow p z)).1 (o.2.1 p hp)
      obtain ⟨s2, ow⟩ := sets_ok P.sl o.1 no o.2.2 e1
      have hl : ∀ {is : List Nat} {rs : List RV} {S S' : Sl}, setsR is rs S = some S' → rs.length = is.length := by
        intro is
        induction is with
        | nil => intro rs S S' e; cases rs with | nil => rfl | cons _ _ => cases e
        | cons i is ih =>
          intro rs S S' e
          cases rs with
          | nil => cases e
          | cons r rs =>
            simp only [setsR] at e
            cases q : svOf r with
            | none => rw [q] at e; cases e
            | some sv =>
              rw [q] at e
              show rs.length + 1 = is.length + 1
              rw [ih e]
      exact hQ D σ vs H1 (by rw [o.1.length]; exact hl e1) (hq _ G1 H1 ⟨P.st, s2, fun p z => (ow p z).imp (P.ow p) (o.2.1 p)⟩)
theorem ds_par2 (i j : Nat) {x y : Str} {px py pt : Pos} {kt k2 pt2} {fa : Sl → Rs (List RV)} (hc : X.calm = true) (nd : X.N.Nodup) (ha : DAR X W [a, b] fa) (hij : i ≠ j := by decide) (hi : X.N[i]? = some x := by rfl) (hj : X.N[j]? = some y := by rfl)
    (hx : X.env.scope.names.lookup x = some .local := by rfl) (hy : X.env.scope.names.lookup y = some .local := by rfl)
    (hw : swappedStores [.Tuple [.Name x px, .Name y py] kt pt] (.Tuple [a, b] k2 pt2) X.env = pure (some [x, y]) := by rfl)
    (hs : swapsWithSole [.Tuple [.Name x px, .Name y py] kt pt] (.Tuple [a, b] k2 pt2) pos.line X.env = pure false := by rfl) : DS X W (.Assign [.Tuple [.Name x px, .Name y py] kt pt] (.Tuple [a, b] k2 pt2) pos) (sPar [i, j] fa) := by
  obtain ⟨t, p, q⟩ := ha
  refine ⟨_, ps_par hc nd hi hj hij hx hy p hw hs, den_par (fun D σ vs H1 => ∃ v w, vs = [v, w] ∧ D.nx ((σ.set i (some v)).set j (some w)) H1) q (fun D σ H h => h) fun D σ vs H1 hl h => ?_⟩
  match vs, hl, h with
  | [v, w], _, h => exact ⟨v, w, rfl, h⟩
theorem ds_par3 (i j l : Nat) {x y z : Str} {px py pz pt : Pos} {kt k2 pt2} {fa : Sl → Rs (List RV)} (hc : X.calm = true) (nd : X.N.Nodup) (ha : DAR X W [a, b, c] fa) (hij : i ≠ j := by decide) (hil : i ≠ l := by decide) (hjl : j ≠ l := by decide)
    (hi : X.N[i]? = some x := by rfl) (hj : X.N[j]? = some y := by rfl) (hl : X.N[l]? = some z := by rfl)
    (hx : X.env.scope.names.lookup x = some .local := by rfl) (hy : X.env.scope.names.lookup y = some .local := by rfl) (hz : X.env.scope.names.lookup z = some .local := by rfl)
    (hw : swappedStores [.Tuple [.Name x px, .Name y py, .Name z pz] kt pt] (.Tuple [a, b, c] k2 pt2) X.env = pure (some [x, y, z]) := by rfl)
    (hs : swapsWithSole [.Tuple [.Name x px, .Name y py, .Name z pz] kt pt] (.Tuple [a, b, c] k2 pt2) pos.line X.env = pure false := by rfl) : DS X W (.Assign [.Tuple [.Name x px, .Name y py, .Name z pz] kt pt] (.Tuple [a, b, c] k2 pt2) pos) (sPar [i, j, l] fa) := by
  obtain ⟨t, p, q⟩ := ha
  refine ⟨_, ps_par3 hc nd hi hj hl hij hil hjl hx hy hz p hw hs, den_par (fun D σ vs H1 => ∃ u v w, vs = [u, v, w] ∧ D.nx (((σ.set i (some u)).set j (some v)).set l (some w)) H1) q (fun D σ H h => h) fun D σ vs H1 hl h => ?_⟩
  match vs, hl, h with
  | [u, v, w], _, h => exact ⟨u, v, w, rfl, h⟩
/-! ### stores into an own list, its methods -/
def ownL (j : Nat) (S : Sl) (k : Option Nat → List D → Out) : Out := match S[j]? with
  | some (.ol t ds) => k t ds
  | _ => .no
/-- xs[i] = e, xs the own list of slot j -/
def sPutIx (j : Nat) (fi fe : Sl → Rs NV) : Sl → Out := fun S => bindS (fe S) fun n S1 => bindS (fVar j S1) fun _ S2 => bindS (fi S2) fun m S3 => match n, m with
  | .f d, .f (.int k) => (match S3[j]? with
    | some (.ol t ds) => (match ixN ds.length k with
      | some q => .nx (S3.set j (.ol t (ds.set q d)))
      | none => .no)
    | _ => .no)
  | _, _ => .no
theorem rv_slot {G H : Hp} {τ : Nat → Addr} {σ : L2.St} {S : Sl} {j : Nat} {v : V} {r : RV} (s : SlOk K τ G H σ S) (e : fVar j S = .ok r S) (o : RVOk K G H σ v r) : r = .bo j → σ[j]? = some (some v) := fun z => by
  subst z
  exact o
/-- the slot's value is the value of its name -/
theorem den_varX (j : Nat) {τ : Nat → Addr} {G H : Hp} {σ : L2.St} {S : Sl} {D : Ends} {k : RV → Sl → Out} {Q1 : V → Hp → Prop} (s : SlOk K τ G H σ S) (hq : Gs K W τ σ S G H (bindS (fVar j S) k) D)
    (hk : ∀ v r, σ[j]? = some (some v) → Gs K W τ σ S G H (k r S) D → Q1 v H) : tVar j σ H Q1 := by
  unfold fVar at hq
  cases e : S[j]? with
  | none => simp only [e, bindS_no] at hq; exact hq.elim
  | some sv =>
    have z := s.ok j sv e
    cases sv with
    | u => simp only [e, bindS_no] at hq; exact hq.elim
    | f d =>
      simp only [e, bindS_ok] at hq
      obtain ⟨v, h1, _⟩ := z
      exact ⟨v, vAt_some h1, hk v _ (vAt_some h1) hq⟩
    | ol t ds =>
      simp only [e, bindS_ok] at hq
      obtain ⟨p, vs, h1, _⟩ := z
      exact ⟨_, vAt_some h1, hk _ _ (vAt_some h1) hq⟩
    | od t ks ds =>
      simp only [e, bindS_ok] at hq
      obtain ⟨p, vs, h1, _⟩ := z
      exact ⟨_, vAt_some h1, hk _ _ (vAt_some h1) hq⟩
theorem vAt_of {σ : L2.St} {i : Nat} {v : V} (h : σ[i]? = some (some v)) : vAt σ i = some v := by
  unfold vAt
  rw [h]
  rfl
theorem ds_putIx (j : Nat) {x : Str} {px ppos : Pos} {i : Expr} (he : DN X W e f1) (hi : DN X W i g1) (hN : X.N[j]? = some x := by rfl) (hv : Vis X.env.scope x := by first | exact Or.inl rfl | exact Or.inr (Or.inl rfl) | exact Or.inr (Or.inr rfl)) (hd : (x == ("__debug__" : Str)) = false := by decide)
    (hcd : (x == ("__classdict__" : Str)) = false := by decide)
    (ha : ∀ v, assign (.Subscript (.Name x px) i ppos) X.env v = (do
      let ov ← holding [v] (eval (.Name x px) X.env)
      let iv ← holding [v, ov] (eval i X.env)
      standAt ppos
      holding [v, ov, iv] (setItem ov iv v)
      release [v, ov, iv] []) := by intro _; rfl)
    (hs : swapsWithSole [.Subscript (.Name x px) i ppos] e pos.line X.env = pure false := by rfl) (hw : swappedStores [.Subscript (.Name x px) i ppos] e X.env = pure none := by rfl)
    (h1 : (assignEach [.Subscript (.Name x px) i ppos] X.env).map (·.2) = [assign (.Subscript (.Name x px) i ppos) X.env] := by rfl) : DS X W (.Assign [.Subscript (.Name x px) i ppos] e pos) (sPutIx j g1 f1) := by
  obtain ⟨t, p, q⟩ := he
  obtain ⟨ti, pi, qi⟩ := hi
  refine ⟨_, ps_asg p (pg_sub (pe_var hN hv hd hcd) pi set_list ha) hs hw h1, fun τ σ S G H s D hq => ?_⟩
  refine Gs.cases (Q1 := fun x H1 => gSub (tVar j) ti rSetL x σ H1 D.nx) q s hq fun x n S1 G1 H1 s1 P o r1 => ?_
  refine den_varX (Q1 := fun ov H2 => ti σ H2 fun iv H3 => rSetL ov iv x H3 fun H4 => D.nx σ H4) j s1 r1 fun ov _ hov r2 => ?_
  refine Gs.cases (Q1 := fun iv H3 => rSetL ov iv x H3 fun H4 => D.nx σ H4) qi s1 r2 fun y m S3 G3 H3 s3 P3 o3 r3 => ?_
  cases n with
  | bo i => exact r3.elim
  | f d =>
    cases m with
    | bo i => exact r3.elim
    | f dk =>
      cases dk <;> try exact r3.elim
      rename_i k
      cases e1 : S3[j]? with
      | none => simp only [e1] at r3; exact r3.elim
      | some sv =>
        cases sv with
        | u => simp only [e1] at r3; exact r3.elim
        | f d => simp only [e1] at r3; exact r3.elim
        | od t ks ds => simp only [e1] at r3; exact r3.elim
        | ol t ds =>
          simp only [e1] at r3
          cases e2 : ixN ds.length k with
          | none => simp only [e2] at r3; exact r3.elim
          | some q =>
            simp only [e2] at r3
            obtain ⟨p, vs, k1, k2, k3, k4, k5, ow⟩ := ow_at s3 e1
            rw [vAt_of hov] at k1
            cases k1
            have rx : R X.K G3 d x := R.mono P3.st.ext _ _ o
            exact ⟨p, vs, k, q, rfl, o3, k2, by rw [k4.len]; exact e2, r3 σ G3 _ (pst_putL s3 e1 (vAt_of hov) (RL.set rx q k4)).s⟩
/-! methods of an own list: xs.append(e), xs.extend(e), xs.pop() -/
def isOl : Option SV → Bool
  | some (.ol _ _) => true
  | _ => false
def fOwn (j : Nat) (fa : Sl → Rs (List NV)) (k : List NV → Option Nat → List D → Sl → Rs RV) : Sl → Rs RV := fun S => if isOl (S[j]?) = true then (fa S).bind fun ns S2 => (match S2[j]? with
  | some (.ol t ds) => k ns t ds S2
  | _ => .no) else .no
def kAppend (j : Nat) : List NV → Option Nat → List D → Sl → Rs RV
  | [.f d], t, ds, S => if ds.length < 100000 then .ok (.f .non) (S.set j (.ol t (ds ++ [d]))) else .no
  | _, _, _, _ => .no
def kExtend (j : Nat) : List NV → Option Nat → List D → Sl → Rs RV
  | [.f (.lst es)], t, ds, S => if ds.length + es.length ≤ 100000 then .ok (.f .non) (S.set j (.ol t (ds ++ es))) else .no
  | _, _, _, _ => .no
def kPop (j : Nat) : List NV → Option Nat → List D → Sl → Rs RV
  | [], t, ds, S => (match ds[ds.length - 1]? with
    | some d => .ok (.f d) (S.set j (.ol t ds.dropLast))
    | none => .no)
  | _, _, _, _ => .no
/-- what a method of lists does with an own list, told of data -/
def MOk (K : PySem.W.Frag) (r : V → List V → Hp → VK → Prop) (j : Nat) (k : List NV → Option Nat → List D → Sl → Rs RV) : Prop :=
  ∀ W τ σ S G H p vs xs ns t ds Q, SlOk K τ G H σ S → S[j]? = some (.ol t ds) → vAt σ j = some (.ref p) → H p = some (.lst vs) → RL K G ds vs → Paired (NVOk K G σ) xs ns → Gd (okR K σ) K W τ σ S G H (k ns t ds S) Q → r (.ref p) xs H Q
theorem den_own {r : V → List V → Hp → VK → Prop} {j : Nat} {k : List NV → Option Nat → List D → Sl → Rs RV} {t : TA} {fa : Sl → Rs (List NV)} (mo : MOk K r j k) (q : DenA K W t fa) : Den K W (tBM K "list" r (tVar j) t) (fOwn j fa k) := by
  intro τ σ S G H s Q hq
  unfold fOwn at hq
  cases e : S[j]? with
  | none => simp only [e, isOl] at hq; exact hq.elim
  | some sv =>
    cases sv with
    | u => simp only [e, isOl] at hq; exact hq.elim
    | f d => simp only [e, isOl] at hq; exact hq.elim
    | od t ks ds => simp only [e, isOl] at hq; exact hq.elim
    | ol t0 ds0 =>
      simp only [e, isOl, if_true] at hq
      obtain ⟨p, vs, h1, h2, h3, h4, h5, ow⟩ := ow_at s e
      refine ⟨.ref p, vAt_some h1, .inl ⟨rfl, _, SqL.of h2⟩, ?_⟩
      refine Gd.cases (Q1 := fun xs H2 => r (.ref p) xs H2 Q) bkR q s hq fun xs ns S1 G1 H1 s1 P o hq1 => ?_
      cases e1 : S1[j]? with
      | none => simp only [e1] at hq1; exact hq1.elim
      | some sv =>
        cases sv with
        | u => simp only [e1] at hq1; exact hq1.elim
        | f d => simp only [e1] at hq1; exact hq1.elim
        | od t ks ds => simp only [e1] at hq1; exact hq1.elim
        | ol t1 ds1 =>
          simp only [e1] at hq1
          obtain ⟨p1, vs1, k1, k2, k3, k4, k5, ow1⟩ := ow_at s1 e1
          rw [h1] at k1
          cases k1
          exact mo W τ σ S1 G1 H1 p vs1 xs ns t1 ds1 Q s1 e1 h1 k2 k4 o hq1
theorem okr_non {H : Hp} {G H' : Hp} {σ : L2.St} : okR K σ H G H' .non (.f .non) := ⟨rfl, fun _ z => nomatch z⟩
theorem lt_line {n : Nat} (h : n < 100000) : n < sizeLine := Nat.lt_of_lt_of_le h (by decide)
theorem mo_append {j : Nat} : MOk K rAppend j (kAppend j) := by
  intro W τ σ S G H p vs xs ns t ds Q s e hv hp r o hq
  cases o with
  | nil => exact hq.elim
  | cons a o' =>
    rename_i x n xs ns
    cases n with
    | bo i => cases o' <;> exact hq.elim
    | f d =>
      cases o' with
      | cons _ _ => exact hq.elim
      | nil =>
        simp only [kAppend] at hq
        by_cases h : ds.length < 100000
        · rw [if_pos h] at hq
          exact ⟨p, vs, x, rfl, rfl, hp, by rw [r.len]; exact lt_line h, hq _ G _ (pst_putL s e hv (RL.app r (RL.cons a RL.nil))) okr_non⟩
        · rw [if_neg h] at hq
          exact hq.elim
theorem mo_extend {j : Nat} : MOk K rExtend j (kExtend j) := by
  intro W τ σ S G H p vs xs ns t ds Q s e hv hp r o hq
  cases o with
  | nil => exact hq.elim
  | cons a o' =>
    rename_i x n xs ns
    cases n with
    | bo i => cases o' <;> exact hq.elim
    | f d =>
      cases o' with
      | cons _ _ => cases d <;> exact hq.elim
      | nil =>
        cases d <;> try exact hq.elim
        rename_i es
        simp only [kExtend] at hq
        obtain ⟨b, zs, rfl, h1, h2⟩ := RX.lst s.le (.f a)
        by_cases h : ds.length + es.length ≤ 100000
        · rw [if_pos h] at hq
          exact ⟨p, b, vs, zs, rfl, rfl, hp, h1, by rw [r.len, h2.len]; exact le_line h, hq _ G _ (pst_putL s e hv (RL.app r h2)) okr_non⟩
        · rw [if_neg h] at hq
          exact hq.elim
theorem RL.dropLast {G : Hp} : ∀ {ds : List D} {vs : List V}, RL K G ds vs → RL K G ds.dropLast vs.dropLast := fun {ds vs} r => by
  rw [List.dropLast_eq_take, List.dropLast_eq_take, r.len]
  exact RL.take _ r
theorem mo_pop {j : Nat} : MOk K rPop j (kPop j) := by
  intro W τ σ S G H p vs xs ns t ds Q s e hv hp r o hq
  cases o with
  | cons _ _ => exact hq.elim
  | nil =>
    simp only [kPop] at hq
    cases e1 : ds[ds.length - 1]? with
    | none => simp only [e1] at hq; exact hq.elim
    | some d =>
      simp only [e1] at hq
      obtain ⟨v, h1, h2⟩ := r.get e1
      exact ⟨p, vs, v, rfl, rfl, hp, by rw [r.len]; exact h1, hq _ G _ (pst_putL s e hv (RL.dropLast r)) ⟨h2, fun _ z => nomatch z⟩⟩
theorem den_nilA : DenA K W tNil fNil := fun τ σ S G H s Q hq => by
  have hq' : Gd (okA K σ) K W τ σ S G H (.ok [] S) Q := hq
  exact hq' [] G H (Pst.refl s) .nil
theorem de_own (j : Nat) {x : Str} {T id : String} {name : Str} {px apos cpos : Pos} {r : V → List V → Hp → VK → Prop} {k : List NV → Option Nat → List D → Sl → Rs RV} {fa : Sl → Rs (List NV)} (slot : Slot "list" name id) (hty : typeOf (.builtin id) = pure (.type "method_descriptor"))
    (hm : MtR X id r) (mo : MOk X.K r j k) (ha : DA X W (e :: es) fa) (hN : X.N[j]? = some x := by rfl) (hv : Vis X.env.scope x := by first | exact Or.inl rfl | exact Or.inr (Or.inl rfl) | exact Or.inr (Or.inr rfl)) (hd : (x == ("__debug__" : Str)) = false := by decide)
    (hcd : (x == ("__classdict__" : Str)) = false := by decide)
    (hbase : attributeBase (.Name x px) name X.env (eval (.Name x px) X.env) = eval (.Name x px) X.env := by rfl)
    (hfew : ((backTo cpos (starEach (e :: es) X.env)).all (fun x => !x.1) && (backToKw cpos (keywordEach [] X.env)).all (fun x => x.1.isSome)
      && decide ((e :: es).length + ([] : List Keyword).length + (if ([] : List Keyword).isEmpty then 0 else 1) < 30)) = true := by rfl)
    (hline : (apos.endLine == cpos.line) = true := by rfl) (hs : starEach (e :: es) X.env = (false, eval e X.env) :: starEach es X.env := by rfl) (hplain : (backTo cpos (starEach es X.env)).any (·.1) = false := by rfl) :
    DE X W (.Call (.Attribute (.Name x px) name apos) (e :: es) [] cpos) (fOwn j fa k) := by
  obtain ⟨t, p, q, _⟩ := ha
  exact ⟨_, pe_bm PySem.F.plainAttrs_list slot hty hm (pe_var hN hv hd hcd) p hbase hfew hline hs hplain, den_own mo q⟩
theorem de_own0 (j : Nat) {x : Str} {T id : String} {name : Str} {px apos cpos : Pos} {r : V → List V → Hp → VK → Prop} {k : List NV → Option Nat → List D → Sl → Rs RV} (slot : Slot "list" name id) (hty : typeOf (.builtin id) = pure (.type "method_descriptor"))
    (hm : MtR X id r) (mo : MOk X.K r j k) (hN : X.N[j]? = some x := by rfl) (hv : Vis X.env.scope x := by first | exact Or.inl rfl | exact Or.inr (Or.inl rfl) | exact Or.inr (Or.inr rfl)) (hd : (x == ("__debug__" : Str)) = false := by decide)
    (hcd : (x == ("__classdict__" : Str)) = false := by decide)
    (hbase : attributeBase (.Name x px) name X.env (eval (.Name x px) X.env) = eval (.Name x px) X.env := by rfl) (hline : (apos.endLine == cpos.line) = true := by rfl) :
    DE X W (.Call (.Attribute (.Name x px) name apos) [] [] cpos) (fOwn j fNil k) := by
  refine ⟨_, pe_bm0 PySem.F.plainAttrs_list slot hty hm (pe_var hN hv hd hcd) hbase hline, fun τ σ S G H s Q hq => ?_⟩
  exact den_own (W := W) (t := tNil) mo den_nilA τ σ S G H s Q hq
/-! ### what a for walks -/
/-- J hands out the data ds, one after another, as long as the frozen heap G stands; pins: locked dicts -/
structure ItOk (K : PySem.W.Frag) (G : Hp) (J : It) (ds : List D) (pins : List (Addr × HO)) : Prop where
  frozen : ∀ q ∈ pins, G q.1 ≠ none ∧ ∀ ws, q.2 ≠ .dK ws
  go : ∀ G1 H1, Ext G G1 → Le G1 H1 → (∀ q ∈ pins, H1 q.1 = some q.2) → ∀ i d, ds[i]? = some d → J.go i H1 ∧ ∀ x H', J.yld i H1 x H' → ∃ G', Stp (fun _ => False) G1 H1 G' H' ∧ Le G' H' ∧ R K G' d x
  stop : ∀ G1 H1, Ext G G1 → Le G1 H1 → (∀ q ∈ pins, H1 q.1 = some q.2) → J.stop ds.length H1
abbrev okI : Okk (List D) It := fun K σ _ G' H' J ds => ∃ pins, (∀ q ∈ pins, H' q.1 = some q.2) ∧ ItOk K G' J ds pins
theorem bkI : Bk okI := fun _ _ _ _ _ _ _ _ _ h => h
def DI (X : Cx) (W : WX') (tg iter : Expr) (f : Sl → Rs (List D)) : Prop := ∃ wi, PI X tg iter wi ∧ Dn okI X.K W wi f
/-- the pins hold over a step -/
theorem pins_keep {G H G' H' : Hp} {σ : L2.St} {S : Sl} {τ : Nat → Addr} {J : It} {ds : List D} {pins : List (Addr × HO)} {G0 : Hp} (it : ItOk K G0 J ds pins) (e : Ext G0 G) (s : SlOk K τ G H σ S) (st : Stp (Ow σ S) G H G' H') (h : ∀ q ∈ pins, H q.1 = some q.2) : ∀ q ∈ pins, H' q.1 = some q.2 := fun q hq => by
  obtain ⟨f1, f2⟩ := it.frozen q hq
  have hn : H q.1 ≠ none := by rw [h q hq]; simp
  have hg : G q.1 ≠ none := by
    cases z : G0 q.1 with
    | none => exact absurd z f1
    | some o => rw [e _ _ z]; simp
  obtain ⟨k, _⟩ := st.keep q.1 hn fun z => hg (s.owned z).2
  rw [k.ne fun ws z => f2 ws (by rw [h q hq] at z; exact Option.some.inj z)]
  exact h q hq
/-! ### for -/
def forF (bind : D → Sl → Option Sl) (body : Sl → Out) : List D → Sl → Out
  | [], S => .nx S
  | d :: ds, S => match bind d S with
    | none => .no
    | some S1 => (match body S1 with
      | .nx S2 => forF bind body ds S2
      | .ct S2 => forF bind body ds S2
      | .bk S2 => .nx S2
      | .rt r S2 => .rt r S2
      | .ex x S2 => .ex x S2
      | .no => .no)
def sFor (fi : Sl → Rs (List D)) (bind : D → Sl → Option Sl) (body : Sl → Out) : Sl → Out := fun S => bindS (fi S) (forF bind body)
theorem stp_slots {G H G' H' : Hp} {σ : L2.St} {S : Sl} {τ : Nat → Addr} (s : SlOk K τ G H σ S) (st : Stp (fun _ => False) G H G' H') (l : Le G' H') : SPst K τ σ S G H σ S G' H' := (Pst.new s st l).s
theorem den_for {wi : TI} {g : TG} {is : List Nat} {bind : D → Sl → Option Sl} {tb : TS} {fi : Sl → Rs (List D)} (hi : Dn okI K W wi fi) (hg : GOk K g is bind) (hb : DnS K W tb F) : DnS K W (tFor wi g tb) (sFor fi bind F) := by
  intro τ σ S G H s D hq
  refine Gs.cases (Q1 := fun J H1 => ∃ W : Nat → Nat → L2.St → Hp → Prop, (∃ m, W 0 m σ H1) ∧ ∀ i m σ H, W i m σ H →
    (J.stop i H ∧ D.nx σ H) ∨ (J.go i H ∧ ∃ N : L2.St → Hp → Prop, (∀ σ' H', N σ' H' → ∃ m', m' < m ∧ W (i + 1) m' σ' H') ∧ ∀ x H', J.yld i H x H' → g x σ H' fun σ2 H2 => tb { D with nx := N, ct := N, bk := D.nx } σ2 H2)) hi s hq fun J ds S1 G1 H1 s1 P ⟨pins, hp, it⟩ hq1 => ?_
  -- what is left to be shown behind i turns
  refine ⟨fun i m σ' H' => m = ds.length - i ∧ i ≤ ds.length ∧ ∃ S' G', SPst K τ σ S1 G1 H1 σ' S' G' H' ∧ (∀ q ∈ pins, H' q.1 = some q.2) ∧ Gs K W τ σ' S' G' H' (forF bind F (ds.drop i) S') D,
    ⟨_, rfl, Nat.zero_le _, S1, G1, SPst.refl s1, hp, by rw [List.drop_zero]; exact hq1⟩, ?_⟩
  rintro i m σ' H' ⟨rfl, hi, S', G', P', hp', hq'⟩
  by_cases hlt : i < ds.length
  · obtain ⟨g1, y1⟩ := it.go G' H' P'.st.ext P'.sl.le hp' i ds[i] (List.getElem?_eq_getElem hlt)
    rw [List.drop_eq_getElem_cons hlt] at hq'
    simp only [forF] at hq'
    refine .inr ⟨g1, fun σ2 H2 => ∃ S2 G2, SPst K τ σ S1 G1 H1 σ2 S2 G2 H2 ∧ (∀ q ∈ pins, H2 q.1 = some q.2) ∧ Gs K W τ σ2 S2 G2 H2 (forF bind F (ds.drop (i + 1)) S2) D, ?_, fun x H2 hy => ?_⟩
    · rintro σ2 H2 ⟨S2, G2, P2, hp2, h2⟩
      exact ⟨ds.length - (i + 1), by omega, rfl, hlt, S2, G2, P2, hp2, h2⟩
    · obtain ⟨G2, st2, l2, r2⟩ := y1 x H2 hy
      have Q2 := stp_slots P'.sl st2 l2
      have hp2 := pins_keep it P'.st.ext P'.sl Q2.st hp'
      have P2 := P'.trans Q2
      have hq2 := hq'.back Q2
      cases e : bind ds[i] S' with
      | none => simp only [e] at hq2; exact hq2.elim
      | some S3 =>
        simp only [e] at hq2
        refine hg τ σ' S' G2 H2 ds[i] x S3 P2.sl r2 e _ fun σ3 s3 ow3 _ _ => ?_
        have Q3 : SPst K τ σ' S' G2 H2 σ3 S3 G2 H2 := ⟨Stp.refl, s3, fun p z => .inl (ow3 p z)⟩
        have hq3 := hq2.back Q3
        have P3 := P2.trans Q3
        refine hb τ σ3 S3 G2 H2 s3 _ ?_
        have again : ∀ {S4 σ4 G4 H4}, SPst K τ σ3 S3 G2 H2 σ4 S4 G4 H4 → Gs K W τ σ3 S3 G2 H2 (forF bind F (ds.drop (i + 1)) S4) D → ∃ S2 G2, SPst K τ σ S1 G1 H1 σ4 S2 G2 H4 ∧ (∀ q ∈ pins, H4 q.1 = some q.2) ∧ Gs K W τ σ4 S2 G2 H4 (forF bind F (ds.drop (i + 1)) S2) D :=
          fun {S4 σ4 G4 H4} Q4 h4 => ⟨S4, G4, P3.trans Q4, pins_keep it (P'.st.ext.trans st2.ext) s3 Q4.st hp2, h4.back Q4⟩
        cases eb : F S3 with
        | nx S4 => simp only [eb] at hq3; exact fun σ4 G4 H4 Q4 => again Q4 hq3
        | ct S4 => simp only [eb] at hq3; exact fun σ4 G4 H4 Q4 => again Q4 hq3
        | bk S4 => simp only [eb] at hq3; exact hq3
        | rt r S4 => simp only [eb] at hq3; exact hq3
        | ex x S4 => simp only [eb] at hq3; exact hq3
        | no => simp only [eb] at hq3; exact hq3
  · have e : i = ds.length := by omega
    subst e
    rw [List.drop_length] at hq'
    exact .inl ⟨it.stop G' H' P'.st.ext P'.sl.le hp', hq' σ' G' H' (SPst.refl P'.sl)⟩
theorem ds_for {g : TG} {is : List Nat} {bind : D → Sl → Option Sl} {fi : Sl → Rs (List D)} (hp : PassesOwn (model X.prog X.w) X.A X.env X.xe) (hc : X.calm = true) (hi : DI X W tg iter fi) (hg : DG X tg g is bind) (hb : DSs X W body F)
    (hs : ∀ x, foldedSetIterable iter X.env x = pure x := by intro _; rfl) : DS X W (.For tg iter body [] pos) (sFor fi bind F) := by
  obtain ⟨wi, p1, q1⟩ := hi
  obtain ⟨tb, p2, q2⟩ := hb
  exact ⟨_, ps_for hp hc p1 hg.1 p2 hs, den_for q1 hg.2 q2⟩
/-! what is walked: a list, a tuple, a range, enumerate, zip -/
def seqOf (n : NV) (S : Sl) : Rs (List D) := match n with
  | .f (.lst ds) => .ok ds S
  | _ => .no
def tupOf (n : NV) (S : Sl) : Rs (List D) := match n with
  | .f (.tup ds) => .ok ds S
  | _ => .no
theorem it_list {G : Hp} {a : Addr} {vs : List V} {ds : List D} (h : G a = some (.lst vs)) (r : RL K G ds vs) : ItOk K G (Itl K a) ds [] := by
  have here : ∀ G1 H1, Ext G G1 → Le G1 H1 → H1 a = some (.lst vs) := fun G1 H1 e l => l.lst (e _ _ h)
  refine ⟨fun _ z => (nomatch z), fun G1 H1 e l _ i d hd => ?_, fun G1 H1 e l _ => ⟨vs, SqL.of (here G1 H1 e l), by rw [r.len]; exact Nat.le_refl _⟩⟩
  obtain ⟨v, h1, h2⟩ := r.get hd
  refine ⟨⟨vs, v, SqL.of (here G1 H1 e l), h1⟩, fun x H' ⟨e1, e2⟩ => ⟨G1, ?_, ?_, ?_⟩⟩
  · rw [e1]; exact Stp.refl
  · rw [e1]; exact l
  · have := e2 vs (SqL.of (here G1 H1 e l))
    rw [h1] at this
    cases this
    exact R.mono e _ _ h2
theorem it_tup {G : Hp} {a : Addr} {vs : List V} {ds : List D} (h : SqT K G a vs) (r : RL K G ds vs) : ItOk K G (Itt K a) ds [] := by
  have here : ∀ G1 H1, Ext G G1 → Le G1 H1 → SqT K H1 a vs := fun G1 H1 e l => l.sqt (ext_t e h)
  refine ⟨fun _ z => (nomatch z), fun G1 H1 e l _ i d hd => ?_, fun G1 H1 e l _ => ⟨vs, here G1 H1 e l, by rw [r.len]; exact Nat.le_refl _⟩⟩
  obtain ⟨v, h1, h2⟩ := r.get hd
  refine ⟨⟨vs, v, here G1 H1 e l, h1⟩, fun x H' ⟨e1, e2⟩ => ⟨G1, ?_, ?_, ?_⟩⟩
  · rw [e1]; exact Stp.refl
  · rw [e1]; exact l
  · have := e2 vs (here G1 H1 e l)
    rw [h1] at this
    cases this
    exact R.mono e _ _ h2
def intsFrom (lo : Int) (n : Nat) : List D := (List.range n).map fun i => .int (lo + (i : Nat))
theorem it_range {G : Hp} {lo : Int} {n : Nat} : ItOk K G (Itr lo n) (intsFrom lo n) [] := by
  refine ⟨fun _ z => (nomatch z), fun G1 H1 e l _ i d hd => ?_, fun G1 H1 e l _ => ?_⟩
  · unfold intsFrom at hd
    rw [List.getElem?_map] at hd
    cases q : (List.range n)[i]? with
    | none => rw [q] at hd; cases hd
    | some j =>
      rw [q] at hd
      cases hd
      obtain ⟨hl, hj⟩ := List.getElem?_eq_some_iff.mp q
      rw [List.getElem_range] at hj
      subst hj
      refine ⟨show i < n by simpa using hl, fun x H' ⟨e1, e2⟩ => ⟨G1, ?_, ?_, ?_⟩⟩
      · rw [e1]; exact Stp.refl
      · rw [e1]; exact l
      · rw [e2]; exact (rfl : V.int _ = V.int _)
  · show n ≤ (intsFrom lo n).length
    unfold intsFrom
    simp
theorem di_list (h : DN X W iter f1) : DI X W tg iter (fun S => (f1 S).bind seqOf) := by
  obtain ⟨t, p, q⟩ := h
  refine ⟨_, pi_list p, fun τ σ S G H s Q hq => Gd.cases (Q1 := fun x H1 => ∃ a, x = V.ref a ∧ (∃ xs, SqL X.K H1 a xs) ∧ Q (Itl X.K a) H1) bkI q s hq fun x n S1 G1 H1 s1 P o r => ?_⟩
  cases n with
  | bo i => exact r.elim
  | f d =>
    cases d <;> try exact r.elim
    rename_i ds
    have o' : R X.K G1 (.lst ds) x := o
    simp only [R] at o'
    obtain ⟨a, vs, rfl, h1, h2⟩ := o'
    exact ⟨a, rfl, ⟨vs, SqL.of (s1.le.lst h1)⟩, r _ G1 H1 (Pst.refl s1) ⟨[], (fun _ z => nomatch z), it_list h1 h2⟩⟩
theorem di_tup (h : DN X W iter f1) : DI X W tg iter (fun S => (f1 S).bind tupOf) := by
  obtain ⟨t, p, q⟩ := h
  refine ⟨_, pi_tup p, fun τ σ S G H s Q hq => Gd.cases (Q1 := fun x H1 => ∃ a, x = V.ref a ∧ (∃ xs, SqT X.K H1 a xs) ∧ Q (Itt X.K a) H1) bkI q s hq fun x n S1 G1 H1 s1 P o r => ?_⟩
  cases n with
  | bo i => exact r.elim
  | f d =>
    cases d <;> try exact r.elim
    rename_i ds
    have o' : R X.K G1 (.tup ds) x := o
    simp only [R] at o'
    obtain ⟨a, vs, rfl, h1, h2⟩ := o'
    exact ⟨a, rfl, ⟨vs, s1.le.sqt h1⟩, r _ G1 H1 (Pst.refl s1) ⟨[], (fun _ z => nomatch z), it_tup h1 h2⟩⟩
/-- within the range of a range; closed to evaluation -/
@[irreducible] def inR (j : Int) : Bool := decide (-(2 ^ 62) ≤ j ∧ j < 2 ^ 62)
theorem inR_iff {j : Int} : inR j = true ↔ (-(2 ^ 62) ≤ j ∧ j < 2 ^ 62) := by
  unfold inR
  exact decide_eq_true_iff
def rng1 (ns : List NV) (S : Sl) : Rs (List D) := match ns with
  | [.f (.int j)] => if inR j = true then .ok (intsFrom 0 j.toNat) S else .no
  | _ => .no
def rng2 (ns : List NV) (S : Sl) : Rs (List D) := match ns with
  | [.f (.int i), .f (.int j)] => if inR i = true ∧ inR j = true then .ok (intsFrom i (j - i).toNat) S else .no
  | _ => .no
theorem di_range1 {p : Pos} {fa : Sl → Rs (List NV)} (hm : X.mg "range" = none) (ha : DA X W [a] fa) (hg : Gl X "range" := by rfl) (hs : starEach [a] X.env = [(false, eval a X.env)] := by rfl) : DI X W tg (.Call (.Name "range" p) [a] [] pos) (fun S => (fa S).bind rng1) := by
  obtain ⟨t, p1, q, _⟩ := ha
  refine ⟨_, pi_range1 hg hm p1 hs, fun τ σ S G H s Q hq => Gd.cases (Q1 := fun vs H1 => ∃ j : Int, vs = [V.int j] ∧ -(2 ^ 62) ≤ j ∧ j < 2 ^ 62 ∧ Q (Itr 0 j.toNat) H1) bkI q s hq fun vs ns S1 G1 H1 s1 P o r => ?_⟩
  unfold rng1 at r
  split at r
  · rename_i j
    by_cases h : inR j = true
    · rw [if_pos h] at r
      replace h := inR_iff.mp h
      cases o with
      | cons a t =>
        cases t
        exact ⟨j, congrArg (fun z => [z]) a, h.1, h.2, r _ G1 H1 (Pst.refl s1) ⟨[], (fun _ z => nomatch z), it_range⟩⟩
    · rw [if_neg h] at r
      exact r.elim
  · exact r.elim
theorem di_range2 {p : Pos} {fa : Sl → Rs (List NV)} (hm : X.mg "range" = none) (ha : DA X W [a, b] fa) (hg : Gl X "range" := by rfl) (hs : starEach [a, b] X.env = [(false, eval a X.env), (false, eval b X.env)] := by rfl) (hs2 : starEach [b] X.env = [(false, eval b X.env)] := by rfl) :
    DI X W tg (.Call (.Name "range" p) [a, b] [] pos) (fun S => (fa S).bind rng2) := by
  obtain ⟨t, p1, q, _⟩ := ha
  refine ⟨_, pi_range2 hg hm p1 hs hs2, fun τ σ S G H s Q hq => Gd.cases (Q1 := fun vs H1 => ∃ i j : Int, vs = [V.int i, V.int j] ∧ (-(2 ^ 62) ≤ i ∧ i < 2 ^ 62 ∧ -(2 ^ 62) ≤ j ∧ j < 2 ^ 62) ∧ Q (Itr i (j - i).toNat) H1) bkI q s hq fun vs ns S1 G1 H1 s1 P o r => ?_⟩
  unfold rng2 at r
  split at r
  · rename_i i j
    by_cases h : inR i = true ∧ inR j = true
    · rw [if_pos h] at r
      replace h : -(2 ^ 62) ≤ i ∧ i < 2 ^ 62 ∧ -(2 ^ 62) ≤ j ∧ j < 2 ^ 62 := ⟨(inR_iff.mp h.1).1, (inR_iff.mp h.1).2, inR_iff.mp h.2⟩
      cases o with
      | cons a t =>
        cases t with
        | cons b t =>
          cases t
          have a' : _ = V.int i := a
          have b' : _ = V.int j := b
          subst a' b'
          exact ⟨i, j, rfl, h, r _ G1 H1 (Pst.refl s1) ⟨[], (fun _ z => nomatch z), it_range⟩⟩
    · rw [if_neg h] at r
      exact r.elim
  · exact r.elim
end
end DL
set_option Elab.async false
set_option linter.all false
set_option maxRecDepth 100000
set_option maxHeartbeats 4000000
/-! DL7: enumerate, zip, list comprehensions, while, a def by its body. -/
namespace DL
open PySem L2
open PyProof.Rows (envOfC)
section
variable {X : Cx} {W : WX'} {K : PySem.W.Frag}
variable {e a b c iter tg elt : Expr} {es ifs : List Expr} {f g h : Sl → Rs RV} {f1 g1 h1 : Sl → Rs NV} {fb gb : Sl → Rs Bool} {pos : Pos} {st : Stmt} {rest p q body : List Stmt} {F F2 : Sl → Out}
/-! ### enumerate(xs), zip(xs, ys) -/
def numbered : Nat → List D → List D
  | _, [] => []
  | i, d :: ds => .tup [.int (i : Nat), d] :: numbered (i + 1) ds
theorem numbered_at : ∀ {ds : List D} {i k : Nat} {d : D}, (numbered k ds)[i]? = some d → ∃ d', ds[i]? = some d' ∧ d = .tup [.int ((k + i : Nat) : Int), d']
  | [], i, k, d, h => by simp [numbered] at h
  | d0 :: ds, 0, k, d, h => by
    simp [numbered] at h
    exact ⟨d0, rfl, h.symm⟩
  | d0 :: ds, i + 1, k, d, h => by
    simp only [numbered, List.getElem?_cons_succ] at h
    obtain ⟨d', h1, h2⟩ := numbered_at h
    refine ⟨d', by simpa using h1, ?_⟩
    rw [h2]
    have : k + 1 + i = k + (i + 1) := by omega
    rw [this]
theorem numbered_len : ∀ {ds : List D} {k : Nat}, (numbered k ds).length = ds.length
  | [], _ => rfl
  | _ :: ds, k => by simp [numbered, numbered_len]
theorem it_enum {G : Hp} {a : Addr} {vs : List V} {ds : List D} (h : G a = some (.lst vs)) (r : RL K G ds vs) : ItOk K G (Ite K a) (numbered 0 ds) [] := by
  have here : ∀ G1 H1, Ext G G1 → Le G1 H1 → H1 a = some (.lst vs) := fun G1 H1 e l => l.lst (e _ _ h)
  refine ⟨fun _ z => (nomatch z), fun G1 H1 e l _ i d hd => ?_, fun G1 H1 e l _ => ⟨vs, SqL.of (here G1 H1 e l), by rw [r.len, numbered_len]; exact Nat.le_refl _⟩⟩
  obtain ⟨d', hd', rfl⟩ := numbered_at hd
  obtain ⟨v, h1, h2⟩ := r.get hd'
  refine ⟨⟨vs, v, SqL.of (here G1 H1 e l), h1⟩, fun x H' ⟨T, y, e1, e2, e3, e4⟩ => ?_⟩
  have ey := e4 vs (SqL.of (here G1 H1 e l))
  rw [h1] at ey
  cases ey
  subst e1 e3
  rw [Nat.zero_add]
  exact ⟨_, stp_newF l e2, le_newF l e2, r_newT (l.free e2) (RL.cons (d := .int (i : Nat)) rfl (RL.cons (R.mono e _ _ h2) RL.nil))⟩
def numOf (ns : List NV) (S : Sl) : Rs (List D) := match ns with
  | [.f (.lst ds)] => .ok (numbered 0 ds) S
  | _ => .no
theorem di_enum {p tpos : Pos} {elts : List Expr} {kk : Nat} {fa : Sl → Rs (List NV)} (hm : X.mg "enumerate" = none) (ha : DA X W [a] fa) (hg : Gl X "enumerate" := by rfl) (hs : starEach [a] X.env = [(false, eval a X.env)] := by rfl) :
    DI X W (.Tuple elts kk tpos) (.Call (.Name "enumerate" p) [a] [] pos) (fun S => (fa S).bind numOf) := by
  obtain ⟨t, p1, q, _⟩ := ha
  refine ⟨_, pi_enum hg hm p1 hs, fun τ σ S G H s Q hq => Gd.cases (Q1 := fun vs H1 => ∃ a xs, vs = [V.ref a] ∧ SqL X.K H1 a xs ∧ Q (Ite X.K a) H1) bkI q s hq fun vs ns S1 G1 H1 s1 P o r => ?_⟩
  unfold numOf at r
  split at r
  · rename_i ds
    cases o with
    | cons a t =>
      cases t
      have a' : R X.K G1 (.lst ds) _ := a
      simp only [R] at a'
      obtain ⟨ad, vs', rfl, h1, h2⟩ := a'
      exact ⟨ad, vs', rfl, SqL.of (s1.le.lst h1), r _ G1 H1 (Pst.refl s1) ⟨[], (fun _ z => nomatch z), it_enum h1 h2⟩⟩
  · exact r.elim
def zipped : List D → List D → List D
  | a :: as, b :: bs => .tup [a, b] :: zipped as bs
  | _, _ => []
theorem zipped_at : ∀ {as bs : List D} {i : Nat} {d : D}, (zipped as bs)[i]? = some d → ∃ x y, as[i]? = some x ∧ bs[i]? = some y ∧ d = .tup [x, y]
  | [], _, _, _, h => by simp [zipped] at h
  | _ :: _, [], _, _, h => by simp [zipped] at h
  | a :: as, b :: bs, 0, d, h => by
    simp [zipped] at h
    exact ⟨a, b, rfl, rfl, h.symm⟩
  | a :: as, b :: bs, i + 1, d, h => by
    simp only [zipped, List.getElem?_cons_succ] at h
    obtain ⟨x, y, h1, h2, h3⟩ := zipped_at h
    exact ⟨x, y, by simpa using h1, by simpa using h2, h3⟩
theorem zipped_end : ∀ {as bs : List D}, as.length ≤ (zipped as bs).length ∨ bs.length ≤ (zipped as bs).length
  | [], _ => .inl (Nat.zero_le _)
  | _ :: _, [] => .inr (Nat.zero_le _)
  | a :: as, b :: bs => by
    simp only [zipped, List.length_cons]
    rcases zipped_end (as := as) (bs := bs) with h | h
    · exact .inl (by omega)
    · exact .inr (by omega)
theorem it_zip {G : Hp} {a b : Addr} {vs ws : List V} {ds es : List D} (h : G a = some (.lst vs)) (r : RL K G ds vs) (h' : G b = some (.lst ws)) (r' : RL K G es ws) : ItOk K G (Itz K a b) (zipped ds es) [] := by
  have here : ∀ G1 H1, Ext G G1 → Le G1 H1 → H1 a = some (.lst vs) := fun G1 H1 e l => l.lst (e _ _ h)
  have here' : ∀ G1 H1, Ext G G1 → Le G1 H1 → H1 b = some (.lst ws) := fun G1 H1 e l => l.lst (e _ _ h')
  refine ⟨fun _ z => (nomatch z), fun G1 H1 e l _ i d hd => ?_, fun G1 H1 e l _ => ⟨vs, ws, SqL.of (here G1 H1 e l), SqL.of (here' G1 H1 e l), by rw [r.len, r'.len]; exact zipped_end⟩⟩
  obtain ⟨x, y, hx, hy, rfl⟩ := zipped_at hd
  obtain ⟨v, h1, h2⟩ := r.get hx
  obtain ⟨w, k1, k2⟩ := r'.get hy
  refine ⟨⟨vs, ws, v, w, SqL.of (here G1 H1 e l), SqL.of (here' G1 H1 e l), h1, k1⟩, fun z H' ⟨T, x', y', e1, e2, e3, e4, e5⟩ => ?_⟩
  have ex := e4 vs (SqL.of (here G1 H1 e l))
  rw [h1] at ex
  cases ex
  have ey := e5 ws (SqL.of (here' G1 H1 e l))
  rw [k1] at ey
  cases ey
  subst e1 e3
  exact ⟨_, stp_newF l e2, le_newF l e2, r_newT (l.free e2) (RL.cons (R.mono e _ _ h2) (RL.cons (R.mono e _ _ k2) RL.nil))⟩
def zipOf (ns : List NV) (S : Sl) : Rs (List D) := match ns with
  | [.f (.lst ds), .f (.lst es)] => .ok (zipped ds es) S
  | _ => .no
theorem di_zip {p tpos : Pos} {elts : List Expr} {kk : Nat} {fa : Sl → Rs (List NV)} (hm : X.mg "zip" = none) (ha : DA X W [a, b] fa) (hg : Gl X "zip" := by rfl)
    (hs : starEach [a, b] X.env = (false, eval a X.env) :: starEach [b] X.env := by rfl) (hpl : (backTo pos (starEach [b] X.env)).any (·.1) = false := by rfl) :
    DI X W (.Tuple elts kk tpos) (.Call (.Name "zip" p) [a, b] [] pos) (fun S => (fa S).bind zipOf) := by
  obtain ⟨t, p1, q, _⟩ := ha
  refine ⟨_, pi_zip hg hm p1 hs hpl, fun τ σ S G H s Q hq => Gd.cases (Q1 := fun vs H1 => ∃ a b xs ys, vs = [V.ref a, V.ref b] ∧ SqL X.K H1 a xs ∧ SqL X.K H1 b ys ∧ Q (Itz X.K a b) H1) bkI q s hq fun vs ns S1 G1 H1 s1 P o r => ?_⟩
  unfold zipOf at r
  split at r
  · rename_i ds es
    cases o with
    | cons a t =>
      cases t with
      | cons b t =>
        cases t
        have a' : R X.K G1 (.lst ds) _ := a
        have b' : R X.K G1 (.lst es) _ := b
        simp only [R] at a' b'
        obtain ⟨ad, vs', rfl, h1, h2⟩ := a'
        obtain ⟨bd, ws', rfl, k1, k2⟩ := b'
        exact ⟨ad, bd, vs', ws', rfl, SqL.of (s1.le.lst h1), SqL.of (s1.le.lst k1), r _ G1 H1 (Pst.refl s1) ⟨[], (fun _ z => nomatch z), it_zip h1 h2 k1 k2⟩⟩
  · exact r.elim
/-! ### list comprehensions -/
def wipeS (S : Sl) : List Nat → Sl
  | [] => S
  | v :: vs => (wipeS S vs).set v .u
theorem wipeS_len (S : Sl) : ∀ vs, (wipeS S vs).length = S.length
  | [] => rfl
  | v :: vs => by unfold wipeS; rw [List.length_set, wipeS_len S vs]
theorem wipeS_at {S : Sl} {j : Nat} : ∀ {vs : List Nat}, j ∉ vs → (wipeS S vs)[j]? = S[j]?
  | [], _ => rfl
  | v :: vs, h => by
    simp only [List.mem_cons, not_or] at h
    unfold wipeS
    rw [List.getElem?_set_ne (Ne.symm h.1)]
    exact wipeS_at h.2
theorem wipe_at {σ : L2.St} {j : Nat} : ∀ {vs : List Nat}, j ∉ vs → (wipe σ vs)[j]? = σ[j]?
  | [], _ => rfl
  | v :: vs, h => by
    simp only [List.mem_cons, not_or] at h
    unfold wipe
    rw [List.getElem?_set_ne (Ne.symm h.1)]
    exact wipe_at h.2
theorem wipeS_in {S : Sl} {j : Nat} {sv : SV} : ∀ {vs : List Nat}, j ∈ vs → (wipeS S vs)[j]? = some sv → sv = .u
  | [], h, _ => by cases h
  | v :: vs, h, e => by
    unfold wipeS at e
    rcases getElem?_set_of e with ⟨_, z⟩ | ⟨ne, z⟩
    · exact z
    · exact wipeS_in ((List.mem_cons.mp h).resolve_left ne) z
/-- the slots vs are forgotten; outside vs the values agree -/
theorem sl_wipe {τ : Nat → Addr} {G H : Hp} {σ σ' : L2.St} {S : Sl} {vs : List Nat} (s : SlOk K τ G H σ S) (hl : σ'.length = σ.length) (ha : ∀ j, j ∉ vs → σ'[j]? = σ[j]?) : SlOk K τ G H σ' (wipeS S vs) ∧ ∀ p, Ow σ' (wipeS S vs) p → Ow σ S p := by
  have va : ∀ j, j ∉ vs → vAt σ' j = vAt σ j := fun j hj => by unfold vAt; rw [ha j hj]
  have at_ : ∀ j q, OwAt σ' (wipeS S vs) j q → OwAt σ S j q := fun j q ⟨sv, e1, e2⟩ => by
    by_cases hj : j ∈ vs
    · rw [wipeS_in hj e1] at e2
      cases e2
    · rw [wipeS_at hj] at e1
      rw [va j hj] at e2
      exact ⟨sv, e1, e2⟩
  refine ⟨⟨by rw [hl, wipeS_len]; exact s.len, s.le, fun j sv e => ?_, fun j k q a b => s.ap j k q (at_ j q a) (at_ k q b)⟩, fun q ⟨j, z⟩ => ⟨j, at_ j q z⟩⟩
  by_cases hj : j ∈ vs
  · rw [wipeS_in hj e]
    trivial
  · rw [wipeS_at hj] at e
    rw [va j hj]
    exact s.ok j sv e
theorem wipe_congr {σ σ' : L2.St} {vs : List Nat} (hl : σ'.length = σ.length) (ha : ∀ j, j ∉ vs → σ'[j]? = σ[j]?) : wipe σ' vs = wipe σ vs := by
  apply List.ext_getElem?
  intro j
  by_cases hj : j ∈ vs
  · have gone : ∀ (σ : L2.St) {vs : List Nat}, j ∈ vs → (wipe σ vs)[j]? = if j < σ.length then some none else none := by
      intro σ vs
      induction vs with
      | nil => intro h; cases h
      | cons v vs ih =>
        intro h
        unfold wipe
        by_cases e : v = j
        · subst e
          by_cases hl : v < σ.length
          · rw [List.getElem?_set_self (by rw [wipe_length]; exact hl), if_pos hl]
          · rw [if_neg hl, List.getElem?_eq_none (by rw [List.length_set, wipe_length]; omega)]
        · rw [List.getElem?_set_ne e]
          exact ih ((List.mem_cons.mp h).resolve_left (Ne.symm e))
    rw [gone σ' hj, gone σ hj, hl]
  · rw [wipe_at hj, wipe_at hj, ha j hj]
def dataOf (n : NV) (S : Sl) : Rs D := match n with
  | .f d => .ok d S
  | .bo _ => .no
/-- the turns of a comprehension; between two turns its own slots are forgotten -/
def lcF (vs : List Nat) (bind : D → Sl → Option Sl) (tt : Sl → Rs Bool) (te : Sl → Rs NV) : List D → List D → Sl → Rs RV
  | [], acc, S => .ok (.ol acc) S
  | d :: ds, acc, S => match bind d S with
    | none => .no
    | some S1 => (match tt S1 with
      | .ok true S2 => (match te S2 with
        | .ok (.f x) S3 => if acc.length < 100000 then lcF vs bind tt te ds (acc ++ [x]) (wipeS S3 vs) else .no
        | _ => .no)
      | .ok false S2 => lcF vs bind tt te ds acc (wipeS S2 vs)
      | _ => .no)
def fLc (vs : List Nat) (fi : Sl → Rs (List D)) (bind : D → Sl → Option Sl) (tt : Sl → Rs Bool) (te : Sl → Rs NV) : Sl → Rs RV := fun S => (fi S).bind fun ds S1 => lcF vs bind tt te ds [] (wipeS S1 vs)
def W0 : WX' := fun _ _ _ _ => False
/-- the reading that a denotation is worth -/
def canon {α β : Type} (ok : Okk α β) (K : PySem.W.Frag) (W : WX') (f : Sl → Rs α) : L2.St → Hp → (β → Hp → Prop) → Prop := fun σ H Q => ∃ τ S G, SlOk K τ G H σ S ∧ Gd (ok K σ) K W τ σ S G H (f S) Q
theorem DN.canon (d : DN X W e f1) : PE X e (canon okN X.K W f1) := by
  obtain ⟨t, p, q⟩ := d
  exact ⟨fun pins s σ H Q I ⟨τ, S, G, sl, gd⟩ => p.run pins s σ H Q I (q τ σ S G H sl Q gd)⟩
theorem dn_canon {α β : Type} {ok : Okk α β} {f : Sl → Rs α} : Dn ok K W (canon ok K W f) f := fun τ σ S G H s Q hq => ⟨τ, S, G, s, hq⟩
/-- a clause's tests -/
def DTs (X : Cx) (W : WX') (ifs : List Expr) (f : Sl → Rs Bool) : Prop := ∃ t, PTs X ifs t ∧ DenT X.K W t f
theorem DTs.canon (d : DTs X W ifs fb) : PTs X ifs (canon okB X.K W fb) := by
  obtain ⟨t, p, q⟩ := d
  exact ⟨fun pins s σ H Q I ⟨τ, S, G, sl, gd⟩ => p.run pins s σ H Q I (q τ σ S G H sl Q gd)⟩
def fYes : Sl → Rs Bool := fun S => .ok true S
theorem dts_nil : DTs X W [] fYes := ⟨_, pts_nil, fun τ σ S G H s Q hq => hq true G H (Pst.refl s) rfl⟩
theorem dts_one (h : DT X W c fb) : DTs X W [c] fb := let ⟨_, p, q⟩ := h; ⟨_, pts_one p, q⟩
theorem wipeS_id {S : Sl} : ∀ {vs : List Nat}, (∀ j ∈ vs, ∀ sv, S[j]? = some sv → sv = .u) → wipeS S vs = S
  | [], _ => rfl
  | v :: vs, h => by
    unfold wipeS
    rw [wipeS_id fun j hj => h j (List.mem_cons_of_mem _ hj)]
    apply List.ext_getElem?
    intro j
    by_cases e : v = j
    · subst e
      by_cases hl : v < S.length
      · rw [List.getElem?_set_self hl, List.getElem?_eq_getElem hl, h v List.mem_cons_self _ (List.getElem?_eq_getElem hl)]
      · rw [List.getElem?_eq_none (by rw [List.length_set]; omega), List.getElem?_eq_none (by omega)]
    · rw [List.getElem?_set_ne e]
theorem den_lc {wi : TI} {g : TG} {is vs : List Nat} {bind : D → Sl → Option Sl} {tt : TT} {te : TE} {ft : Sl → Rs Bool} {fe : Sl → Rs NV} {fi : Sl → Rs (List D)} (hi : Dn okI K W wi fi) (hg : GOk K g is bind) (his : ∀ i ∈ is, i ∈ vs) (ht : DenT K W0 tt ft) (he : DenN K W0 te fe) :
    Den K W (tLc wi g tt te vs) (fLc vs fi bind ft fe) := by
  intro τ σ S G H s Q hq
  unfold fLc at hq
  refine Gd.cases (Q1 := fun J H1 => ∀ D, H1 D = none → ∃ W : Nat → Nat → Hp → Prop, (∃ m, W 0 m (upd H1 D (.lst []))) ∧ ∀ i m H, W i m H →
    (J.stop i H ∧ Q (.ref D) H) ∨ (J.go i H ∧ ∃ Nx : Hp → Prop, (∀ H', Nx H' → ∃ m', m' < m ∧ W (i + 1) m' H') ∧ ∀ x H', J.yld i H x H' → g x (wipe σ vs) H' fun σ2 H2 => wipe σ2 vs = wipe σ vs ∧ tt σ2 H2 fun b H3 =>
      if b = true then te σ2 H3 fun y H4 => ∃ acc, H4 D = some (.lst acc) ∧ acc.length < sizeLine ∧ Nx (upd H4 D (.lst (acc ++ [y]))) else Nx H3)) bkR hi s hq fun J ds S1 G1 H1 s1 P ⟨pins, hp, it⟩ hq1 Dl hD => ?_
  obtain ⟨sw, oww⟩ := sl_wipe (σ' := σ) (vs := vs) s1 rfl fun _ _ => rfl
  -- the state between two turns: the new list's items so far, what is left
  let Mid : Nat → Hp → Prop := fun i H' => ∃ S' G' acc ws, (∀ j ∈ vs, ∀ sv, S'[j]? = some sv → sv = .u) ∧ Pst K τ σ S1 G1 H1 S' G' H' ∧ (∀ q ∈ pins, H' q.1 = some q.2) ∧ H' Dl = some (.lst ws) ∧ G' Dl = none ∧ RL K G' acc ws ∧ Gd (okR K σ) K W τ σ S1 G1 H1 (lcF vs bind ft fe (ds.drop i) acc S') Q
  have hGD : G1 Dl = none := s1.le.free hD
  have nD1 : ∀ {S' p}, (∀ p, Ow σ S' p → Ow σ S1 p) → Ow σ S' p → p ≠ Dl := fun ow z e => (s1.owned (ow _ z)).1 (by rw [e]; exact hD)
  have startP : Pst K τ σ S1 G1 H1 (wipeS S1 vs) G1 (upd H1 Dl (.lst [])) := by
    have q := Pst.new s1 (stp_new (o := .lst []) hD) (le_new s1.le hD)
    obtain ⟨a1, a2⟩ := sl_wipe (σ' := σ) (vs := vs) q.sl rfl fun _ _ => rfl
    exact ⟨q.st, a1, fun p z => a2 p z⟩
  refine ⟨fun i m H' => m = ds.length - i ∧ i ≤ ds.length ∧ Mid i H', ⟨_, rfl, Nat.zero_le _, wipeS S1 vs, G1, [], [], fun j hj sv e => wipeS_in hj e, startP, fun q hq => ?_, upd_same, hGD, RL.nil, by rw [List.drop_zero]; exact hq1⟩, ?_⟩
  · rw [upd_ne (fun e => by rw [← e, hp q hq] at hD; cases hD)]
    exact hp q hq
  rintro i m H' ⟨rfl, hi, S', G', acc, ws, hu, P', hp', hw, hg', racc, hq'⟩
  by_cases hlt : i < ds.length
  · obtain ⟨g1, y1⟩ := it.go G' H' P'.st.ext P'.sl.le hp' i ds[i] (List.getElem?_eq_getElem hlt)
    rw [List.drop_eq_getElem_cons hlt] at hq'
    simp only [lcF] at hq'
    refine .inr ⟨g1, Mid (i + 1), fun H2 h2 => ⟨ds.length - (i + 1), by omega, rfl, hlt, h2⟩, fun x H2 hy => ?_⟩
    obtain ⟨G2, st2, l2, r2⟩ := y1 x H2 hy
    have Q2 := Pst.new P'.sl st2 l2
    have hp2 := pins_keep it P'.st.ext P'.sl Q2.st hp'
    have keepD : ∀ {O : Addr → Prop} {Ga Ha Gb Hb : Hp} {ws : List V}, Stp O Ga Ha Gb Hb → ¬ O Dl → Ha Dl = some (.lst ws) → Ga Dl = none → Hb Dl = some (.lst ws) ∧ Gb Dl = none := fun {O Ga Ha Gb Hb ws} st no h1 h2 => by
      obtain ⟨k1, k2⟩ := st.keep Dl (by rw [h1]; simp) no
      exact ⟨(k1.own h2).trans h1, k2.trans h2⟩
    obtain ⟨hw2, hg2⟩ := keepD st2 (fun z => z) hw hg'
    -- the block's slots
    obtain ⟨s0, ow0⟩ := sl_wipe (σ' := wipe σ vs) (vs := vs) Q2.sl (wipe_length σ vs) (fun j hj => wipe_at hj)
    rw [wipeS_id hu] at s0 ow0
    cases eb : bind ds[i] S' with
    | none => simp only [eb] at hq'; exact hq'.elim
    | some S3 =>
      simp only [eb] at hq'
      refine hg τ (wipe σ vs) S' G2 H2 ds[i] x S3 s0 r2 eb _ fun σ3 s3 ow3 len3 ag3 => ?_
      have l3 : σ3.length = σ.length := len3.trans (wipe_length σ vs)
      have a3 : ∀ j, j ∉ vs → σ3[j]? = σ[j]? := fun j hj => (ag3 j fun z => hj (his j z)).1.trans (wipe_at hj)
      have owS : ∀ p, Ow σ3 S3 p → Ow σ S' p := fun p z => ow0 p (ow3 p z)
      have noD3 : ¬ Ow σ3 S3 Dl := fun z => nD1 P'.ow (owS _ z) rfl
      -- behind a part of the block: the state outside
      have out : ∀ {S4 G4 H4}, Pst K τ σ3 S3 G2 H2 S4 G4 H4 → Pst K τ σ S1 G1 H1 (wipeS S4 vs) G4 H4 := fun {S4 G4 H4} PB => by
        obtain ⟨b1, b2⟩ := sl_wipe (σ' := σ) (vs := vs) PB.sl l3.symm fun j hj => (a3 j hj).symm
        refine ⟨(P'.trans Q2).st.trans PB.st fun p z => .inl ((P'.trans Q2).ow p (owS p z)), b1, fun p z => P'.ow p (owS p (PB.ow p (b2 p z)))⟩
      have pinsO : ∀ {S4 G4 H4}, Pst K τ σ3 S3 G2 H2 S4 G4 H4 → ∀ q ∈ pins, H4 q.1 = some q.2 := fun {S4 G4 H4} PB => pins_keep it (P'.st.ext.trans st2.ext) s3 PB.st hp2
      refine ⟨wipe_congr l3 a3, ht τ σ3 S3 G2 H2 s3 _ ?_⟩
      cases et : ft S3 with
      | no => simp only [et] at hq'; exact hq'.elim
      | ex x S4 => simp only [et] at hq'; exact hq'.elim
      | ok bb S4 =>
        intro b G4 H4 P4 ebb
        rw [← (show b = bb from ebb)] at et
        obtain ⟨hw4, hg4⟩ := keepD P4.st noD3 hw2 hg2
        cases b with
        | false =>
          simp only [et] at hq'
          show Mid (i + 1) H4
          exact ⟨wipeS S4 vs, G4, acc, ws, fun j hj sv e => wipeS_in hj e, out P4, pinsO P4, hw4, hg4, RL.mono (st2.ext.trans P4.st.ext) _ _ racc, hq'⟩
        | true =>
          simp only [et] at hq'
          show te σ3 H4 _
          refine he τ σ3 S4 G4 H4 P4.sl _ ?_
          cases ee : fe S4 with
          | no => simp only [ee] at hq'; exact hq'.elim
          | ex x S5 => simp only [ee] at hq'; exact hq'.elim
          | ok n S5 =>
            cases n with
            | bo i => simp only [ee] at hq'; exact hq'.elim
            | f d =>
              simp only [ee] at hq'
              by_cases hacc : acc.length < 100000
              · rw [if_pos hacc] at hq'
                intro y G5 H5 P5 oy
                have PB := P4.trans P5
                obtain ⟨hw5, hg5⟩ := keepD PB.st noD3 hw2 hg2
                have PO := out PB
                have racc5 : RL K G5 acc ws := RL.mono (st2.ext.trans PB.st.ext) _ _ racc
                have ext15 := PO.st.ext
                refine ⟨ws, hw5, by rw [racc5.len]; exact lt_line hacc, wipeS S5 vs, G5, acc ++ [d], ws ++ [y], fun j hj sv e => wipeS_in hj e, ?_, fun q hq => ?_, upd_same, hg5, RL.app racc5 (RL.cons oy RL.nil), hq'⟩
                · refine ⟨⟨PO.st.ext, fun a ha hn => ?_, fun a ha => ?_⟩, PO.sl.step (stp_upd (by rw [hw5]; simp)) (le_upd PO.sl.le hg5) fun p z e => nD1 PO.ow z e, PO.ow⟩
                  · have ne : a ≠ Dl := fun e => ha (by rw [e]; exact hD)
                    unfold Kp
                    rw [upd_ne ne]
                    exact PO.st.keep a ha hn
                  · have ne : a ≠ Dl := fun e => ha (by rw [e]; exact hD)
                    rw [upd_ne ne]
                    exact PO.st.stay a ha
                · have ne : q.1 ≠ Dl := fun e => by
                    have := hp q hq
                    rw [e, hD] at this
                    cases this
                  rw [upd_ne ne]
                  exact pinsO PB q hq
              · rw [if_neg hacc] at hq'
                exact hq'.elim
  · have e : i = ds.length := by omega
    subst e
    rw [List.drop_length] at hq'
    refine .inl ⟨it.stop G' H' P'.st.ext P'.sl.le hp', ?_⟩
    exact hq' (.ref Dl) G' H' P' ⟨⟨Dl, ws, rfl, hw, hg', racc⟩, fun p e => by cases e; exact hD⟩
theorem de_lc {scope : Scope} {own : List (Str × Nat)} {g : TG} {is : List Nat} {bind : D → Sl → Option Sl} {ft : Sl → Rs Bool} {fe : Sl → Rs NV} {fi : Sl → Rs (List D)} (hc : X.calm = true) (nd : X.N.Nodup) (hi : DI X W tg iter fi) (ok : blkC X.N X.env.scope scope own = true)
    (hg : ∀ (s : Shared) (H : Hp) (C : Addr) (cl : List (Str × Addr)) (fp : List Addr), DG (X.blk s H scope (compEnvC scope cl C X.env) fp) tg g is bind) (ht : ∀ (s : Shared) (H : Hp) (C : Addr) (cl : List (Str × Addr)) (fp : List Addr), DTs (X.blk s H scope (compEnvC scope cl C X.env) fp) W0 ifs ft)
    (he : ∀ (s : Shared) (H : Hp) (C : Addr) (cl : List (Str × Addr)) (fp : List Addr), DN (X.blk s H scope (compEnvC scope cl C X.env) fp) W0 elt fe) (his : ∀ i ∈ is, i ∈ own.map (·.2) := by decide)
    (hs : ∀ x, foldedSetIterable iter X.env x = pure x := by intro _; rfl) : DE X W (.ListComp elt [⟨tg, iter, ifs, 0⟩] scope pos) (fLc (own.map (·.2)) fi bind ft fe) := by
  obtain ⟨wi, p1, q1⟩ := hi
  exact ⟨_, pe_lc (own := own) (te := canon okN X.K W0 fe) (tt := canon okB X.K W0 ft) hc nd p1 (blkOk_by ok) (fun s H C cl fp => (hg s H C cl fp).1) (fun s H C cl fp => (ht s H C cl fp).canon) (fun s H C cl fp => (he s H C cl fp).canon) hs,
    den_lc q1 (hg X.s_0 X.H_0 0 [] []).2 his dn_canon dn_canon⟩
theorem ds_setLc (i : Nat) {y : Str} {py spos : Pos} {scope : Scope} {own : List (Str × Nat)} {g : TG} {is : List Nat} {bind : D → Sl → Option Sl} {ft : Sl → Rs Bool} {fe : Sl → Rs NV} {fi : Sl → Rs (List D)} (hc : X.calm = true) (nd : X.N.Nodup) (hi : DI X W tg iter fi) (ok : blkC X.N X.env.scope scope own = true)
    (hg : ∀ (s : Shared) (H : Hp) (C : Addr) (cl : List (Str × Addr)) (fp : List Addr), DG (X.blk s H scope (compEnvC scope cl C X.env) fp) tg g is bind) (ht : ∀ (s : Shared) (H : Hp) (C : Addr) (cl : List (Str × Addr)) (fp : List Addr), DTs (X.blk s H scope (compEnvC scope cl C X.env) fp) W0 ifs ft)
    (he : ∀ (s : Shared) (H : Hp) (C : Addr) (cl : List (Str × Addr)) (fp : List Addr), DN (X.blk s H scope (compEnvC scope cl C X.env) fp) W0 elt fe) (his : ∀ i ∈ is, i ∈ own.map (·.2) := by decide)
    (hy : X.N[i]? = some y := by rfl) (hyl : X.env.scope.names.lookup y = some .local := by rfl)
    (hsw : swapsWith (.ListComp elt [⟨tg, iter, ifs, 0⟩] scope pos) (some (.Name y py)) spos.line X.env = pure true := by exact sw_true rfl rfl rfl (by decide +kernel))
    (hs : ∀ x, foldedSetIterable iter X.env x = pure x := by intro _; rfl) : DS X W (.Assign [.Name y py] (.ListComp elt [⟨tg, iter, ifs, 0⟩] scope pos) spos) (sSet i (fLc (own.map (·.2)) fi bind ft fe)) := by
  obtain ⟨wi, p1, q1⟩ := hi
  exact ⟨_, ps_setLc (own := own) (te := canon okN X.K W0 fe) (tt := canon okB X.K W0 ft) hc nd hy hyl hsw p1 (blkOk_by ok) (fun s H C cl fp => (hg s H C cl fp).1) (fun s H C cl fp => (ht s H C cl fp).canon) (fun s H C cl fp => (he s H C cl fp).canon) hs,
    den_asg i (den_lc q1 (hg X.s_0 X.H_0 0 [] []).2 his dn_canon dn_canon)⟩
/-! ### while, n turns at most -/
def whileF (c : Sl → Rs Bool) (body : Sl → Out) : Nat → Sl → Out
  | 0, _ => .no
  | n + 1, S => bindS (c S) fun b S1 => if b = true then (match body S1 with
      | .nx S2 => whileF c body n S2
      | .ct S2 => whileF c body n S2
      | .bk S2 => .nx S2
      | .rt r S2 => .rt r S2
      | .ex x S2 => .ex x S2
      | .no => .no) else .nx S1
theorem den_while {tc : TT} {tb : TS} (n : Nat) (hc : DenT K W tc fb) (hb : DnS K W tb F) : DnS K W (tWhile tc tb) (whileF fb F n) := by
  intro τ σ S G H s D hq
  refine ⟨fun m σ' H' => ∃ S' G', SPst K τ σ S G H σ' S' G' H' ∧ Gs K W τ σ' S' G' H' (whileF fb F m S') D, ⟨n, S, G, SPst.refl s, hq⟩, ?_⟩
  rintro m σ1 H1 ⟨S1, G1, P1, h1⟩
  cases m with
  | zero => exact h1.elim
  | succ m =>
    simp only [whileF] at h1
    refine Gs.cases hc P1.sl h1 fun x b S2 G2 H2 s2 P2 o h2 => ?_
    rw [← (show x = b from o)] at h2
    cases x with
    | false => exact h2 σ1 G2 H2 (SPst.refl s2)
    | true =>
      simp only [if_true] at h2
      refine ⟨fun σ3 H3 => ∃ S3 G3, SPst K τ σ S G H σ3 S3 G3 H3 ∧ Gs K W τ σ3 S3 G3 H3 (whileF fb F m S3) D, fun σ3 H3 z => ⟨m, Nat.lt_succ_self m, z⟩, hb τ σ1 S2 G2 H2 s2 _ ?_⟩
      have again : ∀ {S4 σ4 G4 H4}, SPst K τ σ1 S2 G2 H2 σ4 S4 G4 H4 → Gs K W τ σ1 S2 G2 H2 (whileF fb F m S4) D → ∃ S3 G3, SPst K τ σ S G H σ4 S3 G3 H4 ∧ Gs K W τ σ4 S3 G3 H4 (whileF fb F m S3) D :=
        fun {S4 σ4 G4 H4} Q4 h4 => ⟨S4, G4, (P1.trans P2.s).trans Q4, h4.back Q4⟩
      cases eb : F S2 with
      | nx S4 => simp only [eb] at h2; exact fun σ4 G4 H4 Q4 => again Q4 h2
      | ct S4 => simp only [eb] at h2; exact fun σ4 G4 H4 Q4 => again Q4 h2
      | bk S4 => simp only [eb] at h2; exact h2
      | rt r S4 => simp only [eb] at h2; exact h2
      | ex x S4 => simp only [eb] at h2; exact h2
      | no => simp only [eb] at h2; exact h2
theorem ds_while (n : Nat) (hp : PassesOwn (model X.prog X.w) X.A X.env X.xe) (hc : DT X W c fb) (hb : DSs X W body F) : DS X W (.While c body [] pos) (whileF fb F n) := by
  obtain ⟨tc, p1, q1⟩ := hc
  obtain ⟨tb, p2, q2⟩ := hb
  exact ⟨_, ps_while hp p1 p2, den_while n q1 q2⟩
/-! ### a def by its body -/
def isOwn0 : Option SV → Bool
  | some (.ol (some 0) _) => true
  | some (.od (some 0) _ _) => true
  | _ => false
/-- the first parameter's own list is still there -/
def chk (S0 S' : Sl) (o : Rs RV) : Rs RV := if (isOwn0 (S0[(0 : Nat)]?) && !isOwn0 (S'[(0 : Nat)]?)) = true then .no else o
/-- m: how many slots there are beyond the parameters -/
def bodyF (m : Nat) (F : Sl → Out) : Sl → Rs RV := fun S0 => match F (S0 ++ List.replicate m .u) with
  | .rt r S' => chk S0 S' (noBo r S')
  | .nx S' => chk S0 S' (.ok (.f .non) S')
  | .ex x S' => chk S0 S' (.ex x S')
  | _ => .no
theorem start_at {N : List Str} {vs : List V} {j : Nat} : j < vs.length → (L2.start N vs)[j]? = (vs.map some)[j]? := fun h => by
  unfold L2.start
  rw [List.getElem?_append_left (by simpa using h)]
theorem sl_start {τ : Nat → Addr} {G H : Hp} {N : List Str} {vs : List V} {S0 : Sl} {m : Nat} (s : SlOk K τ G H (vs.map some) S0) (hN : N.length = vs.length + m) : SlOk K τ G H (L2.start N vs) (S0 ++ List.replicate m .u) ∧ ∀ p, Ow (L2.start N vs) (S0 ++ List.replicate m .u) p → Ow (vs.map some) S0 p := by
  have hl : vs.length = S0.length := by simpa using s.len
  have at_ : ∀ j sv, (S0 ++ List.replicate m SV.u)[j]? = some sv → (S0[j]? = some sv ∧ vAt (L2.start N vs) j = vAt (vs.map some) j) ∨ sv = .u := fun j sv e => by
    by_cases hj : j < S0.length
    · rw [List.getElem?_append_left hj] at e
      refine .inl ⟨e, ?_⟩
      unfold vAt
      rw [start_at (by omega)]
    · rw [List.getElem?_append_right (by omega), List.getElem?_replicate] at e
      split at e
      · cases e; exact .inr rfl
      · cases e
  have ow : ∀ j q, OwAt (L2.start N vs) (S0 ++ List.replicate m .u) j q → OwAt (vs.map some) S0 j q := fun j q ⟨sv, e1, e2⟩ => by
    rcases at_ j sv e1 with ⟨h1, h2⟩ | rfl
    · exact ⟨sv, h1, by rw [← h2]; exact e2⟩
    · cases e2
  refine ⟨⟨?_, s.le, fun j sv e => ?_, fun j k q a b => s.ap j k q (ow j q a) (ow k q b)⟩, fun p ⟨j, z⟩ => ⟨j, ow j p z⟩⟩
  · unfold L2.start
    rw [List.length_append, List.length_append, List.length_replicate, List.length_replicate, s.len]
    omega
  · rcases at_ j sv e with ⟨h1, h2⟩ | rfl
    · rw [h2]
      exact s.ok j sv h1
    · trivial
theorem body_gs {τ : Nat → Addr} {G H : Hp} {N : List Str} {vs : List V} {S0 : Sl} {m : Nat} {Q : VK} {E : XK} (hN : N.length = vs.length + m) (s0 : SlOk K τ G H (vs.map some) S0) (par : ∀ j sv, S0[j]? = some sv → okPar j sv)
    (gf : Gf K τ (Ow (vs.map some) S0) G H (bodyF m F S0) Q E) (hW : (∀ c d σ H, E c d H → W c d σ H) ∨ ∀ x S', F (S0 ++ List.replicate m .u) ≠ .ex x S') :
    SlOk K τ G H (L2.start N vs) (S0 ++ List.replicate m .u) ∧ Gs K W τ (L2.start N vs) (S0 ++ List.replicate m .u) G H (F (S0 ++ List.replicate m .u)) { nx := fun _ H' => Q .non H', rt := Q } := by
  obtain ⟨s1, ow1⟩ := sl_start (N := N) (m := m) s0 hN
  have hl0 : S0.length = vs.length := by
    have := s0.len
    simpa using this.symm
  refine ⟨s1, ?_⟩
  unfold bodyF at gf
  -- what the caller is told of its own list
  have fin : ∀ {σ' S' G' H'}, SPst K τ (L2.start N vs) (S0 ++ List.replicate m .u) G H σ' S' G' H' → FPst τ K (Ow (vs.map some) S0) G H S' G' H' := fun {σ' S' G' H'} P => by
    refine ⟨P.st.imp fun p _ z => ow1 p z, P.sl.le, fun ds e => ?_, fun ks ds e => ?_⟩
    · obtain ⟨p, vs', h1, h2, h3, h4, h5, _⟩ := ow_at P.sl e
      rw [h5 0 rfl]
      exact ⟨vs', h2, h3, h4⟩
    · obtain ⟨p, vs', h1, h2, h3, h4, h5, h6, _⟩ := ow_atD P.sl e
      rw [h6 0 rfl]
      exact ⟨vs', h2, h3, h4, h5⟩
  -- where the check is passed, no list of the caller's is handed back as new
  have only0 : ∀ p, Ow (vs.map some) S0 p → isOwn0 (S0[(0 : Nat)]?) = true ∧ p = τ 0 := fun p ⟨i, sv, e, z⟩ => by
    rcases par i sv e with ⟨d, rfl⟩ | ⟨rfl, ⟨ds, rfl⟩ | ⟨ks, ds, rfl⟩⟩
    · cases z
    · obtain ⟨q, _, h1, _, _, _, h5, _⟩ := ow_at s0 e
      rw [h1] at z
      cases z
      exact ⟨by rw [e]; rfl, (h5 0 rfl).symm⟩
    · obtain ⟨q, _, h1, _, _, _, _, h5, _⟩ := ow_atD s0 e
      rw [h1] at z
      cases z
      exact ⟨by rw [e]; rfl, (h5 0 rfl).symm⟩
  have own0 : ∀ {S'}, isOwn0 (S'[(0 : Nat)]?) = true → ∀ {σ' G' H'}, SPst K τ (L2.start N vs) (S0 ++ List.replicate m .u) G H σ' S' G' H' → Ow σ' S' (τ 0) := fun {S'} h {σ' G' H'} P => by
    cases e : S'[(0 : Nat)]? with
    | none => rw [e] at h; cases h
    | some sv =>
      rw [e] at h
      cases sv with
      | u => cases h
      | f d => cases h
      | ol t ds =>
        cases t with
        | none => cases h
        | some j =>
          cases j with
          | succ j => cases h
          | zero =>
            obtain ⟨q, _, h1, _, _, _, h5, ow⟩ := ow_at P.sl e
            rw [h5 0 rfl]
            exact ⟨0, ow⟩
      | od t ks ds =>
        cases t with
        | none => cases h
        | some j =>
          cases j with
          | succ j => cases h
          | zero =>
            obtain ⟨q, _, h1, _, _, _, _, h5, ow⟩ := ow_atD P.sl e
            rw [h5 0 rfl]
            exact ⟨0, ow⟩
  have open_ : ∀ {o S'}, Gf K τ (Ow (vs.map some) S0) G H (chk S0 S' o) Q E → Gf K τ (Ow (vs.map some) S0) G H o Q E ∧ ∀ p, Ow (vs.map some) S0 p → ∀ {σ' G' H'}, SPst K τ (L2.start N vs) (S0 ++ List.replicate m .u) G H σ' S' G' H' → Ow σ' S' p := by
    intro o S' h
    unfold chk at h
    by_cases hc : (isOwn0 (S0[(0 : Nat)]?) && !isOwn0 (S'[(0 : Nat)]?)) = true
    · rw [if_pos hc] at h
      exact h.elim
    · rw [if_neg hc] at h
      refine ⟨h, fun p z {σ' G' H'} P => ?_⟩
      obtain ⟨k1, rfl⟩ := only0 p z
      refine own0 ?_ P
      rw [k1] at hc
      simpa using hc
  cases eF : F (S0 ++ List.replicate m .u) with
  | no => simp only [eF] at gf; exact gf.elim
  | bk S' => simp only [eF] at gf; exact gf.elim
  | ct S' => simp only [eF] at gf; exact gf.elim
  | nx S' =>
    simp only [eF] at gf
    obtain ⟨g1, _⟩ := open_ gf
    exact fun σ' G' H' P => g1 .non G' H' (fin P) rfl fun _ z => nomatch z
  | ex x S' =>
    simp only [eF] at gf
    obtain ⟨g1, _⟩ := open_ gf
    rcases hW with hW | hW
    · exact fun c d σ' G' H' P xo => hW c d σ' H' (g1 c d G' H' (fin P) xo)
    · exact absurd eF (hW x S')
  | rt r S' =>
    simp only [eF] at gf
    obtain ⟨g1, g2⟩ := open_ gf
    intro v σ' G' H' P ro fr
    have fresh : ∀ p, ra v r = some p → H p = none := fun p e => by
      obtain ⟨k1, k2⟩ := fr p e
      rcases k1 with k1 | k1
      · exact absurd (g2 p (ow1 p k1) P) k2
      · exact k1
    cases r with
    | bo i => exact g1.elim
    | f d => exact g1 v G' H' (fin P) (ro.any fun _ z => nomatch z) fresh
    | ol ds => exact g1 v G' H' (fin P) (ro.any fun _ z => nomatch z) fresh
    | od ks ds => exact g1 v G' H' (fin P) (ro.any fun _ z => nomatch z) fresh
theorem fnG_den {CX : CXT} {P : Program} {w : World} {mg : Str → Option Value} {base : Heap} {k m : Nat} {x qual : Str} {st : Stmt} {fa : Addr} {fd : FuncData} {N ps : List Str} (Fn : Fun K x qual st fa fd) (S : FnScope N ps (defScope st)) (hN : N.length = ps.length + m)
    (bd : ∀ (cdv : Value) (A : Around) (outer : List Env) (s : Shared) (H : Hp) (E : XK), Cg (A.deeper (envOfC qual (defScope st) s.heap.objs.size fa cdv)) k → DSs (cxOf CX P w K mg base N qual (defScope st) fa cdv A outer s H E) (fun c d _ H' => E c d H') (defBody st) F) :
    FnG P w K mg base CX (k + 1) fa fd ps (spD K ps.length (bodyF m F)) := by
  obtain ⟨oc, od, kV, doc, pm, an, cdv, ct, osl, rfl, lk, hcd⟩ := Fn.ex
  refine fnG_of lk hcd S (fun vs H Q E h => h.1) fun A outer s H vs Q E cg hsp => ?_
  obtain ⟨hlen, τ, G, S0, s0, par, gf⟩ := hsp
  obtain ⟨t, p1, q1⟩ := bd cdv A outer s H E cg
  obtain ⟨s1, g1⟩ := body_gs (W := fun c d _ H' => E c d H') (N := N) (by rw [hlen]; exact hN) s0 par gf (.inl fun _ _ _ _ z => z)
  exact ⟨t, p1, q1 τ _ _ G H s1 _ g1⟩
/-- a def out of which nothing is raised -/
def bodyF0 (m : Nat) (F : Sl → Out) : Sl → Rs RV := fun S0 => match F (S0 ++ List.replicate m .u) with
  | .rt r S' => chk S0 S' (noBo r S')
  | .nx S' => chk S0 S' (.ok (.f .non) S')
  | _ => .no
theorem fnG_den0 {P : Program} {w : World} {mg : Str → Option Value} {base : Heap} {k m : Nat} {x qual : Str} {st : Stmt} {fa : Addr} {fd : FuncData} {N ps : List Str} (Fn : Fun K x qual st fa fd) (S : FnScope N ps (defScope st)) (hN : N.length = ps.length + m)
    (bd : ∀ (cdv : Value) (A : Around) (outer : List Env) (s : Shared) (H : Hp) (E : XK), Cg (A.deeper (envOfC qual (defScope st) s.heap.objs.size fa cdv)) k → DSs (cxOf CX0 P w K mg base N qual (defScope st) fa cdv A outer s H E).nox W0 (defBody st) F) :
    FnG P w K mg base CX0 (k + 1) fa fd ps (spD K ps.length (bodyF0 m F)) := by
  obtain ⟨oc, od, kV, doc, pm, an, cdv, ct, osl, rfl, lk, hcd⟩ := Fn.ex
  refine fnG_of lk hcd S (fun vs H Q E h => h.1) fun A outer s H vs Q E cg hsp => ?_
  obtain ⟨hlen, τ, G, S0, s0, par, gf⟩ := hsp
  obtain ⟨t, p1, q1⟩ := bd cdv A outer s H E cg
  have key : Gf K τ (Ow (vs.map some) S0) G H (bodyF m F S0) Q E ∧ ∀ x S', F (S0 ++ List.replicate m .u) ≠ .ex x S' := by
    unfold bodyF0 at gf
    unfold bodyF
    cases eF : F (S0 ++ List.replicate m .u) with
    | ex x S' => simp only [eF] at gf; exact gf.elim
    | no => simp only [eF] at gf; exact gf.elim
    | bk S' => simp only [eF] at gf; exact gf.elim
    | ct S' => simp only [eF] at gf; exact gf.elim
    | nx S' => simp only [eF] at gf; exact ⟨gf, fun _ _ z => nomatch z⟩
    | rt r S' => simp only [eF] at gf; exact ⟨gf, fun _ _ z => nomatch z⟩
  obtain ⟨s1, g1⟩ := body_gs (W := W0) (N := N) (by rw [hlen]; exact hN) s0 par key.1 (.inr key.2)
  exact ⟨t, p1.nox, q1 τ _ _ G H s1 _ g1⟩
end
end DL
set_option Elab.async false
set_option linter.all false
set_option maxRecDepth 100000
set_option maxHeartbeats 4000000
/-! DL8: the end of a law: its own def denotes True at every script. -/
namespace DL
open PySem L2
open PyProof.Rows (IntsAre AllBare)
/-- the law's def is called by the claim, where nothing but the script is tracked -/
theorem law_callG {P : Program} {w : World} {K : PySem.W.Frag} {mg mb : Str → Option Value} {k : Nat} {fa a : Addr} {fd : FuncData} {x : Str} {sp : Sp} {s₁ : Shared} {vs : List Value} {ns : List Int}
    (KX : K.In s₁.heap) (hns : s₁.heap.Ns mainGlobals mg) (hb : s₁.heap.Ns builtinsNs mb) (hbb : ∀ x : Str, x ≠ "__name__" → mb x = bootBuiltins x) (hlim : s₁.heap.NoLimit) (hg : s₁.gens = #[])
    (ha : s₁.heap.get? a = some { cls := .type "list", data := .seq vs.toArray }) (hi : IntsAre vs ns) (hl : ns.length ≤ sizeLine) (hr : Cg callerA k)
    (F : ∀ base : Heap, K.In base → base.Ns mainGlobals mg → FnG P w K mg base CX0 k fa fd [x] sp) (hbind : ∀ (s : Shared) (u : Value), BindsTo s fd ⟨[u], []⟩ [(x, u)])
    (hsp : ∀ H : Hp, Only H → SqL K H a (ns.map V.int) → sp [.ref a] H (fun v _ => v = .bl true) fun _ _ _ => False) :
    codeAny (model P w) callerA (.call (.ref fa) ⟨[.ref a], []⟩) (fun r s' => r = .ok (.ret (.bool true)) ∧ PySem.OldK s₁.heap s'.heap ∧ s'.os = s₁.os ∧ AllBare s'.gens) s₁ := by
  have rv := vals_ints hi
  have lenV := hi.length
  -- whatever part of the heap is tracked, as long as it is the script at most
  have go : ∀ H : Hp, Only H → SqL K H a (ns.map V.int) → HOk P w H s₁.heap → (∀ b, H b ≠ none → b = a ∧ K.lookup a = none) →
      codeAny (model P w) callerA (.call (.ref fa) ⟨[.ref a], []⟩) (fun r s' => r = .ok (.ret (.bool true)) ∧ PySem.OldK s₁.heap s'.heap ∧ s'.os = s₁.os ∧ AllBare s'.gens) s₁ := by
    intro H only sql hok mine
    have hid : ∀ {b : Addr} {o : Obj}, s₁.heap.get? b = some o → H b = none → (hidT s₁.heap H).get? b = some o := fun e n => hidT_get e n
    have dictsFree : ∀ {b : Addr} {o : Obj} {es : Array DictEntry} {ep : Nat}, s₁.heap.get? b = some o → o.data = .dict es ep → H b = none := fun {b o es ep} e d => by
      cases q : H b with
      | none => rfl
      | some u =>
        obtain ⟨rfl, _⟩ := mine b (by rw [q]; simp)
        rw [ha] at e
        cases e
        exact nomatch (show Data.seq vs.toArray _ = Data.dict es ep from d)
    have nsHid : ∀ {b : Addr} {m : Str → Option Value}, s₁.heap.Ns b m → (hidT s₁.heap H).Ns b m := fun {b m} ⟨o, es, ep, e, d, r⟩ => ⟨o, es, ep, hid e (dictsFree e d), d, r⟩
    have kHid : K.In (hidT s₁.heap H) := fun b o e => hid (KX b o e) (by
      cases q : H b with
      | none => rfl
      | some u =>
        obtain ⟨rfl, z⟩ := mine b (by rw [q]; simp)
        rw [z] at e
        cases e)
    have hM : Mod K mg (hidT s₁.heap H) := ⟨kHid, nsHid hns, ⟨mb, nsHid hb, hbb⟩, let ⟨mc, h1, h2⟩ := hlim; ⟨mc, nsHid h1, h2⟩⟩
    have e0 : Env0 P w K mg (hidT s₁.heap H) callerA [] s₁ H := ⟨rfl, hM, fun b o e => of_hidT e, Nat.le_of_eq (hidT_size _ _), trivial, fun b z => absurd (show b ∈ ([] : List Addr) from z) (by simp), hok, .of_eq hg⟩
    refine codeAny_mono ((F _ kHid (nsHid hns)).go callerA [] s₁ H ⟨[.ref a], []⟩ [.ref a] [.ref a] _ _ hr e0 (hbind s₁ (.ref a)) (.cons rfl .nil) (hsp H only sql)) fun r s' h => ?_
    cases r with
    | error e => exact False.elim h
    | ok fl =>
      cases fl with
      | next => exact False.elim h
      | brk => exact False.elim h
      | cont => exact False.elim h
      | ret u =>
        obtain ⟨v, H', os, bare, un, hok', r', q⟩ := h
        cases (show v = .bl true from q)
        cases (show u = Value.bool true from r')
        refine ⟨rfl, PySem.OldK.of_keep fun b o e => ?_, os, bare⟩
        cases q : H b with
        | none => exact un.keep b o e q (fun z => absurd (show b ∈ ([] : List Addr) from z) (by simp)) (by simp)
        | some u =>
          rcases only b with z | ⟨ob, xs, z⟩
          · rw [q] at z
            cases z
          · obtain ⟨e1, _⟩ := hok b _ z
            obtain ⟨e2, _⟩ := hok' b _ (un.frzs b ob _ z)
            rw [e] at e1
            cases e1
            exact e2
  cases hk : K.lookup a with
  | some o =>
    have e := KX a o hk
    rw [ha] at e
    cases e
    exact go (fun _ => none) (fun _ => .inl rfl) (.inr ⟨_, vs.toArray, _, hk, rfl, rfl, rfl, by rw [List.size_toArray, lenV]; exact hl, by simpa using rv⟩) (fun b u z => nomatch z) fun b z => absurd rfl z
  | none =>
    refine go (fun b => if b = a then some (.frz { cls := .type "list", data := .seq vs.toArray } (.lst (ns.map V.int))) else none) (fun b => ?_) (.inl (.inr ⟨{ cls := .type "list", data := .seq vs.toArray }, if_pos rfl⟩)) (fun b u z => ?_) fun b z => ?_
    · by_cases h : b = a
      · exact .inr ⟨_, _, if_pos h⟩
      · exact .inl (if_neg h)
    · by_cases h : b = a
      · cases (if_pos h).symm.trans z
        subst h
        exact ⟨ha, by rw [List.length_map]; exact hl, vs, _, rv, ha⟩
      · cases (if_neg h).symm.trans z
    · by_cases h : b = a
      · exact ⟨h, hk⟩
      · exact absurd (if_neg h) z
/-- the goal that k_head leaves, from what the law's def denotes at every script -/
theorem walk_den {l : PySem.W.OpenLaw} {k : Nat} {q : Program} {loose : List Str} {XP : (Str → Option Value) → Heap → Prop} {YP : World → Heap → Prop} {d : PySem.DefRec} {K : PySem.Params → PySem.W.Frag} {x : Str} {F : Sl → Rs RV}
    (hn : l.most = some 63) (hdf : d.params.defaults = []) (hr : Cg callerA k) (hY : ∀ (w : World) (h : Heap), YP w h → (K w.params).In h)
    (hF : ∀ (w : World) (mg : Str → Option Value) (fa : Addr) (h : Heap), (K w.params).In h → h.Ns mainGlobals mg → mg d.name = some (.ref fa) →
      ∃ fd : FuncData, (∀ (s : Shared) (u : Value), BindsTo s fd ⟨[u], []⟩ [(x, u)]) ∧ ∀ base : Heap, (K w.params).In base → base.Ns mainGlobals mg → FnG l.prog w (K w.params) mg base CX0 k fa fd [x] (spD (K w.params) 1 F))
    (hT : ∀ ns : List Int, ns.length ≤ 63 → ∃ S', F [.f (.scr ns)] = .ok (.f (.bl true)) S') :
    PySem.W.WalkO q loose XP YP l.row.toRowW d [] (fun f vs => PySem.call f vs) := by
  refine Att.attach_call hn hdf fun w s₀ s₁ mg mb fa o pm cd doc a vs ns G Y ho hd hcd hmg hobj hints hlen hg => ?_
  have KX := hY w _ Y
  obtain ⟨fd, hb, hFn⟩ := hF w mg fa _ KX G.T.g hmg
  refine law_callG KX G.T.g G.T.b G.T.builtins G.T.nolimit hg hobj hints (Nat.le_trans hlen (by decide)) hr hFn hb fun H hO hS => ?_
  obtain ⟨S', e⟩ := hT ns hlen
  refine ⟨rfl, fun _ => 0, H, [.f (.scr ns)], ⟨rfl, fun a o z => .inl z, fun i sv e => ?_, fun i j p ⟨sv, e, z⟩ _ => ?_⟩, fun j sv e => ?_, ?_⟩
  · cases i with
    | zero => cases e; exact ⟨.ref a, rfl, by simp only [R]; exact ⟨a, rfl, hS⟩⟩
    | succ i => simp at e
  · cases i with
    | zero => cases e; cases z
    | succ i => simp at e
  · cases j with
    | zero => cases e; exact .inl ⟨_, rfl⟩
    | succ j => simp at e
  · rw [e]
    exact fun v G' H' _ r _ => r
end DL
set_option Elab.async false
set_option linter.all false
set_option maxRecDepth 100000
set_option maxHeartbeats 4000000
/-! DL9: built-ins told of data: isinstance, int, min, max, all, sum, list, tuple, strip, join, + and * of lists. -/
namespace DL
open PySem L2
section
variable {X : Cx} {W : WX'} {K : PySem.W.Frag}
variable {e a b c iter tg elt : Expr} {es ifs : List Expr} {f g h : Sl → Rs RV} {f1 g1 h1 : Sl → Rs NV} {fb gb : Sl → Rs Bool} {pos : Pos} {fa : Sl → Rs (List NV)}
/-! ### names of the module -/
theorem de_gint {x : Str} {i : Int} (hm : ∃ t, X.mg x = some (.int i t)) (hg : Gl X x := by rfl) (hdb : (x == ("__debug__" : Str)) = false := by decide) : DE X W (.Name x pos) (fC (.int i)) := by
  obtain ⟨t, hm⟩ := hm
  exact de_glob (v := .int i) hm ⟨t, rfl⟩ (fun _ => rfl) hg hdb
theorem de_gstr {x : Str} {i : Str} (hm : ∃ t, X.mg x = some (.str i t)) (hg : Gl X x := by rfl) (hdb : (x == ("__debug__" : Str)) = false := by decide) : DE X W (.Name x pos) (fC (.str i)) := by
  obtain ⟨t, hm⟩ := hm
  exact de_glob (v := .str i) hm ⟨t, rfl⟩ (fun _ => rfl) hg hdb
theorem de_gref {x : Str} {p : Addr} (hm : X.mg x = some (.ref p)) (hg : Gl X x := by rfl) (hdb : (x == ("__debug__" : Str)) = false := by decide) : DE X W (.Name x pos) (fC (.ref p)) :=
  de_glob (v := .ref p) hm rfl (fun _ => rfl) hg hdb
/-- the name of a built-in class -/
theorem de_bty {x : Str} {T : String} (hm : X.mg x = none) (hv : bootBuiltins x = some (.type T)) (hg : Gl X x := by rfl) (hn : x ≠ "__name__" := by decide) (hdb : (x == ("__debug__" : Str)) = false := by decide) : DE X W (.Name x pos) (fC (.ty T)) :=
  ⟨_, pe_bltn (v := .ty T) hg hm hv rfl hn hdb, den_c fun _ => rfl⟩
/-! ### isinstance -/
def tyD : D → Option String
  | .non => some "NoneType"
  | .bl _ => some "bool"
  | .int _ => some "int"
  | .str _ => some "str"
  | .lst _ => some "list"
  | .tup _ => some "tuple"
  | .dic _ _ => some "dict"
  | _ => none
theorem ty_ok {G H : Hp} {d : D} {x : V} {T : String} (l : Le G H) (h : RX K G H d x) (e : tyD d = some T) : TyX K H x (.type T) := by
  cases d <;> simp only [tyD] at e <;> try (cases e; done)
  · cases e
    cases h.non
    exact .base .non
  · cases e
    cases h.bl
    exact .base (.bl _)
  · cases e
    cases h.int
    exact .base (.int _)
  · cases e
    cases h.str
    exact .base (.str _)
  · cases e
    obtain ⟨p, vs, rfl, h1, _⟩ := h.lst l
    exact .base (.lst h1)
  · cases e
    obtain ⟨p, vs, rfl, h1, _⟩ := h.tup l
    rcases h1 with (h1 | ⟨o, h1⟩) | ⟨o, its, n, h1, h2, _⟩
    · exact .base (.tup h1)
    · exact .fTuple h1
    · exact .kTuple h1 h2
  · cases e
    obtain ⟨p, vs, rfl, h1, _⟩ := h.dic l
    rcases h1 with h1 | ⟨o, h1⟩
    · exact .base (.dK h1)
    · exact .fDict h1
/-- is a T a c, for the classes that are met -/
def isOne (T c : String) : Bool := T == c || (T == "bool" && c == "int")
def knownTy : List String := ["NoneType", "bool", "int", "str", "list", "tuple", "dict"]
theorem isOne_ok : ∀ T ∈ knownTy, ∀ c ∈ ["int", "bool", "str", "list", "tuple", "dict"], kitB T c = some (isOne T c) := by decide +kernel
theorem tyD_known {d : D} {T : String} (e : tyD d = some T) : T ∈ knownTy := by
  cases d <;> simp only [tyD] at e <;> first | (cases e; done) | (cases e; decide)
def okCls (c : String) : Bool := c == "int" || c == "bool" || c == "str" || c == "list" || c == "tuple" || c == "dict"
theorem okCls_mem {c : String} (h : okCls c = true) : c ∈ ["int", "bool", "str", "list", "tuple", "dict"] := by
  simp only [okCls, Bool.or_eq_true, beq_iff_eq] at h
  simp only [List.mem_cons, List.mem_nil_iff, or_false]
  rcases h with ((((h | h) | h) | h) | h) | h
  all_goals simp [h]
/-- an exception as a value -/
def isXb : D → Bool
  | .xob _ _ _ => true
  | _ => false
def cIsi : List D → Option RV
  | [d, .ty c] => (match tyD d with
    | some T => if okCls c = true then some (.f (.bl (isOne T c))) else none
    | none => if isXb d && okCls c then some (.f (.bl false)) else none)
  | _ => none
/-- what is asked of a thing whose class is built in, or of an exception -/
def rIs2 (K : PySem.W.Frag) : List V → Hp → VK → Prop := fun xs H Q => rIsi K xs H Q ∨ rIsX K xs H Q
theorem call_is2 {X : Cx} : CallR X (.builtin "isinstance") (rIs2 X.K) := fun pins s σ H xs us Q I r h => h.elim (call_isi pins s σ H xs us Q I r) (call_isX pins s σ H xs us Q I r)
def rIs2T (K : PySem.W.Frag) : List V → Hp → VK → Prop := fun xs H Q => rIsiT K xs H Q ∨ rIsXT K xs H Q
theorem call_is2T {X : Cx} : CallR X (.builtin "isinstance") (rIs2T X.K) := fun pins s σ H xs us Q I r h => h.elim (call_isiT pins s σ H xs us Q I r) (call_isXT pins s σ H xs us Q I r)
theorem xob_ok {G H : Hp} {d : D} {x : V} (l : Le G H) (h : RX K G H d x) (e : isXb d = true) : ∃ a C dx fs, x = .ref a ∧ H a = some (exo a C (some dx)) ∧ H dx = some (exd dx fs) ∧ XobC K C := by
  cases d <;> simp only [isXb] at e <;> try (cases e; done)
  cases h with
  | f h =>
    simp only [R] at h
    obtain ⟨a, dx, ws, rfl, ⟨C, _, h0, h2⟩, h3, _⟩ := h
    exact ⟨a, C, dx, ws, rfl, l.extx h2, l.extx h3, h0⟩
theorem RX.ty {G H : Hp} {n : String} {v : V} (h : RX K G H (.ty n) v) : v = .ty n := by cases h with | f h => exact h
theorem co_isi : CallOk K (rIs2 K) cIsi := by
  intro G H xs ds o l hx ho Q hQ
  unfold cIsi at ho
  split at ho
  · rename_i d c
    obtain ⟨x, y, rfl, h1, h2⟩ := pr2 hx
    split at ho
    · rename_i T e
      by_cases hc : okCls c = true
      · rw [if_pos hc] at ho
        cases ho
        cases h2.ty
        exact .inl ⟨x, _, _, _, _, rfl, .ty c, ty_ok l h1 e, kit_ty (isOne_ok T (tyD_known e) c (okCls_mem hc)), ok_val (d := .bl _) l rfl hQ⟩
      · rw [if_neg hc] at ho
        cases ho
    · by_cases hc : (isXb d && okCls c) = true
      · rw [if_pos hc] at ho
        cases ho
        cases h2.ty
        obtain ⟨hc1, hc2⟩ := Bool.and_eq_true_iff.mp hc
        obtain ⟨a, C, dx, fs, rfl, ha, hd, hX⟩ := xob_ok l h1 hc1
        exact .inr ⟨a, C, dx, fs, _, _, _, rfl, ha, hd, hX.e, .ty c, hX.k c (okCls_mem hc2), ok_val (d := .bl _) l rfl hQ⟩
      · rw [if_neg hc] at ho
        cases ho
  · cases ho
theorem de_isi {p : Pos} (hm : X.mg "isinstance" = none) (ha : DA X W [e, c] fa) (hg : Gl X "isinstance" := by rfl)
    (he : starEach [e, c] X.env = (false, eval e X.env) :: starEach [c] X.env := by rfl) (hpl : (backTo pos (starEach [c] X.env)).any (·.1) = false := by rfl) : DE X W (.Call (.Name "isinstance" p) [e, c] [] pos) (fCB cIsi fa) :=
  de_cb call_is2 co_isi hm (by decide +kernel) ha hg (by decide) (by decide) he hpl
/-- isinstance(x, (T, U)), the pair written there -/
def fIsi2 (T U : String) (f : Sl → Rs NV) : Sl → Rs RV := fun S => (f S).bind fun n S1 => match view S1 n with
  | some d => (match tyD d with
    | some t => .ok (.f (.bl (isOne t T || isOne t U))) S1
    | none => if isXb d = true then .ok (.f (.bl false)) S1 else .no)
  | none => .no
theorem kit2 {T U t : String} (ht : t ∈ knownTy) (hT : T ∈ ["int", "bool", "str", "list", "tuple", "dict"]) (hU : U ∈ ["int", "bool", "str", "list", "tuple", "dict"]) : PySem.W.kitAny K (.type t) [.type T, .type U] = some (isOne t T || isOne t U) := by
  have e1 := kit_ty (K := K) (isOne_ok t ht T hT)
  have e2 := kit_ty (K := K) (isOne_ok t ht U hU)
  unfold PySem.W.kitAny
  rw [e1]
  cases isOne t T with
  | true => rfl
  | false =>
    show PySem.W.kitAny K (.type t) [.type U] = some (isOne t U)
    unfold PySem.W.kitAny
    rw [e2]
    cases isOne t U <;> rfl
theorem kit2x {t c1 c2 : Value} (h1 : PySem.W.kitOne K t c1 = some false) (h2 : PySem.W.kitOne K t c2 = some false) : PySem.W.kitAny K t [c1, c2] = some false := by
  unfold PySem.W.kitAny
  rw [h1]
  show PySem.W.kitAny K t [c2] = some false
  unfold PySem.W.kitAny
  rw [h2]
  rfl
theorem de_isi2 {p p1 p2 tp : Pos} {k : Nat} {T U : String} {xT xU : Str} (hm : X.mg "isinstance" = none) (hmT : X.mg xT = none) (hmU : X.mg xU = none) (hvT : bootBuiltins xT = some (.type T)) (hvU : bootBuiltins xU = some (.type U)) (hT : okCls T = true) (hU : okCls U = true)
    (ha : DN X W e f1) (hg : Gl X "isinstance" := by rfl) (hgT : Gl X xT := by rfl) (hgU : Gl X xU := by rfl) (hnT : xT ≠ "__name__" := by decide) (hnU : xU ≠ "__name__" := by decide) (hdT : (xT == ("__debug__" : Str)) = false := by decide) (hdU : (xU == ("__debug__" : Str)) = false := by decide)
    (hs : starEach [e, .Tuple [.Name xT p1, .Name xU p2] k tp] X.env = (false, eval e X.env) :: starEach [.Tuple [.Name xT p1, .Name xU p2] k tp] X.env := by rfl)
    (hs1 : starEach [.Tuple [.Name xT p1, .Name xU p2] k tp] X.env = (false, eval (.Tuple [.Name xT p1, .Name xU p2] k tp) X.env) :: starEach [] X.env := by rfl)
    (hs2 : starEach [.Name xT p1, .Name xU p2] X.env = (false, eval (.Name xT p1) X.env) :: starEach [.Name xU p2] X.env := by rfl) (hs3 : starEach [.Name xU p2] X.env = (false, eval (.Name xU p2) X.env) :: starEach [] X.env := by rfl)
    (hpl : (backTo pos (starEach [.Tuple [.Name xT p1, .Name xU p2] k tp] X.env)).any (·.1) = false := by rfl) :
    DE X W (.Call (.Name "isinstance" p) [e, .Tuple [.Name xT p1, .Name xU p2] k tp] [] pos) (fIsi2 T U f1) := by
  obtain ⟨t, p0, q⟩ := ha
  have pT : PE X (.Name xT p1) (tC (.ty T)) := pe_bltn hgT hmT hvT rfl hnT hdT
  have pU : PE X (.Name xU p2) (tC (.ty U)) := pe_bltn hgU hmU hvU rfl hnU hdU
  refine ⟨_, pe_callB call_is2T hg hm (by decide +kernel) (pa_cons p0 (pa_cons (pe_tup (pa_cons pT (pa_cons pU pa_nil hs3) hs2)) pa_nil hs1) hs) (by decide) (by decide) hs hpl, fun τ σ S G H s Q hq => ?_⟩
  refine Gd.cases (Q1 := fun x H1 => tCons (tTup (tCons (tC (.ty T)) (tCons (tC (.ty U)) tNil))) tNil σ H1 fun xs H2 => rIs2T X.K (x :: xs) H2 Q) bkR q s hq fun x n S1 G1 H1 s1 P o r => ?_
  cases ev : view S1 n with
  | none => simp only [ev] at r; exact r.elim
  | some d =>
    simp only [ev] at r
    cases et : tyD d with
    | none =>
      simp only [et] at r
      by_cases hb : isXb d = true
      · rw [if_pos hb] at r
        refine ⟨by show 2 ≤ sizeLine; decide, fun tp htp => ?_⟩
        have hx := view_ok s1 o ev
        have P2 := pst_newT (o := .tup [.ty T, .ty U]) s1 htp
        have hx2 : RX X.K (upd G1 tp (.tup [.ty T, .ty U])) (upd H1 tp (.tup [.ty T, .ty U])) d x := by
          have ne : ∀ {q : Addr} {u : HO}, H1 q = some u → q ≠ tp := fun h e => by rw [e, htp] at h; cases h
          cases hx with
          | f h => exact .f (R.mono P2.st.ext _ _ h)
          | ol h r => exact .ol (by rw [upd_ne (ne h)]; exact h) (RL.mono P2.st.ext _ _ r)
          | od h k r => exact .od (by rw [upd_ne (ne h)]; exact h) k (RL.mono P2.st.ext _ _ r)
        obtain ⟨a, C, dx, fs, rfl, ha, hd, hX⟩ := xob_ok P2.sl.le hx2 hb
        exact .inr ⟨a, C, dx, fs, tp, [.ty T, .ty U], [.type T, .type U], false, rfl, upd_same, .cons (.ty T) (.cons (.ty U) .nil), ha, hd, hX.e, kit2x (hX.k T (okCls_mem hT)) (hX.k U (okCls_mem hU)), r _ _ _ P2 okr_bl⟩
      · rw [if_neg hb] at r; exact r.elim
    | some t0 =>
      simp only [et] at r
      refine ⟨by show 2 ≤ sizeLine; decide, fun tp htp => ?_⟩
      have hx := view_ok s1 o ev
      have P2 := pst_newT (o := .tup [.ty T, .ty U]) s1 htp
      have hx2 : RX X.K (upd G1 tp (.tup [.ty T, .ty U])) (upd H1 tp (.tup [.ty T, .ty U])) d x := by
        have ne : ∀ {q : Addr} {u : HO}, H1 q = some u → q ≠ tp := fun h e => by rw [e, htp] at h; cases h
        cases hx with
        | f h => exact .f (R.mono P2.st.ext _ _ h)
        | ol h r => exact .ol (by rw [upd_ne (ne h)]; exact h) (RL.mono P2.st.ext _ _ r)
        | od h k r => exact .od (by rw [upd_ne (ne h)]; exact h) k (RL.mono P2.st.ext _ _ r)
      exact .inl ⟨x, tp, [.ty T, .ty U], .type t0, [.type T, .type U], _, rfl, upd_same, .cons (.ty T) (.cons (.ty U) .nil), ty_ok P2.sl.le hx2 et, kit2 (tyD_known et) (okCls_mem hT) (okCls_mem hU), r _ _ _ P2 okr_bl⟩
/-! ### int, min, max, all, sum, list, tuple -/
def cInt : List D → Option RV
  | [.int i] => some (.f (.int i))
  | [.bl k] => some (.f (.int (if k = true then 1 else 0)))
  | _ => none
theorem co_int : CallOk K (fun xs H Q => (∃ i, xs = [.int i] ∧ Q (.int i) H) ∨ ∃ k, xs = [.bl k] ∧ Q (.int (if k then 1 else 0)) H) cInt := by
  intro G H xs ds o l hx ho Q hQ
  unfold cInt at ho
  split at ho
  · rename_i i
    obtain ⟨x, rfl, h⟩ := pr1 hx
    cases ho
    cases h.int
    exact .inl ⟨i, rfl, ok_val (d := .int i) l rfl hQ⟩
  · rename_i k
    obtain ⟨x, rfl, h⟩ := pr1 hx
    cases ho
    cases h.bl
    exact .inr ⟨k, rfl, ok_val (d := .int _) l rfl hQ⟩
  · cases ho
def cMax : List D → Option RV
  | [.int i, .int j] => some (.f (.int (if j > i then j else i)))
  | _ => none
def cMin : List D → Option RV
  | [.int i, .int j] => some (.f (.int (if j < i then j else i)))
  | _ => none
theorem co_max : CallOk K (fun xs H Q => ∃ i j, xs = [.int i, .int j] ∧ Q (.int (if j > i then j else i)) H) cMax := by
  intro G H xs ds o l hx ho Q hQ
  unfold cMax at ho
  split at ho
  · rename_i i j
    obtain ⟨x, y, rfl, h1, h2⟩ := pr2 hx
    cases ho
    cases h1.int
    cases h2.int
    exact ⟨i, j, rfl, ok_val (d := .int _) l rfl hQ⟩
  · cases ho
theorem co_min : CallOk K (fun xs H Q => ∃ i j, xs = [.int i, .int j] ∧ Q (.int (if j < i then j else i)) H) cMin := by
  intro G H xs ds o l hx ho Q hQ
  unfold cMin at ho
  split at ho
  · rename_i i j
    obtain ⟨x, y, rfl, h1, h2⟩ := pr2 hx
    cases ho
    cases h1.int
    cases h2.int
    exact ⟨i, j, rfl, ok_val (d := .int _) l rfl hQ⟩
  · cases ho
theorem de_int1 {p : Pos} (hm : X.mg "int" = none) (ha : DA X W [e] fa) (hg : Gl X "int" := by rfl)
    (he : starEach [e] X.env = (false, eval e X.env) :: starEach [] X.env := by rfl) (hpl : (backTo pos (starEach [] X.env)).any (·.1) = false := by rfl) : DE X W (.Call (.Name "int" p) [e] [] pos) (fCB cInt fa) :=
  de_ct call_int1 co_int hm (by decide +kernel) ha hg (by decide) (by decide) he hpl
theorem de_max2 {p : Pos} (hc : X.calm = true) (hm : X.mg "max" = none) (ha : DA X W [a, b] fa) (hg : Gl X "max" := by rfl)
    (he : starEach [a, b] X.env = (false, eval a X.env) :: starEach [b] X.env := by rfl) (hpl : (backTo pos (starEach [b] X.env)).any (·.1) = false := by rfl) : DE X W (.Call (.Name "max" p) [a, b] [] pos) (fCB cMax fa) :=
  de_cb (call_max2 hc) co_max hm (by decide +kernel) ha hg (by decide) (by decide) he hpl
theorem de_min2 {p : Pos} (hc : X.calm = true) (hm : X.mg "min" = none) (ha : DA X W [a, b] fa) (hg : Gl X "min" := by rfl)
    (he : starEach [a, b] X.env = (false, eval a X.env) :: starEach [b] X.env := by rfl) (hpl : (backTo pos (starEach [b] X.env)).any (·.1) = false := by rfl) : DE X W (.Call (.Name "min" p) [a, b] [] pos) (fCB cMin fa) :=
  de_cb (call_min2 hc) co_min hm (by decide +kernel) ha hg (by decide) (by decide) he hpl
def blsOf : List D → Option (List Bool)
  | [] => some []
  | .bl b :: ds => (blsOf ds).map (b :: ·)
  | _ :: _ => none
def intsOf : List D → Option (List Int)
  | [] => some []
  | .int b :: ds => (intsOf ds).map (b :: ·)
  | _ :: _ => none
def strsOf : List D → Option (List Str)
  | [] => some []
  | .str b :: ds => (strsOf ds).map (b :: ·)
  | _ :: _ => none
theorem rl_nil {G : Hp} {vs : List V} (h : RL K G [] vs) : vs = [] := by simpa only [RL, R.RL] using h
theorem rl_cons {G : Hp} {d : D} {ds : List D} {vs : List V} (h : RL K G (d :: ds) vs) : ∃ v r, vs = v :: r ∧ R K G d v ∧ RL K G ds r := by simpa only [RL, R.RL] using h
theorem bls_ok {G : Hp} : ∀ {ds : List D} {bs : List Bool} {vs : List V}, blsOf ds = some bs → RL K G ds vs → vs = bs.map V.bl
  | [], bs, vs, e, r => by
    cases e
    exact rl_nil r
  | d :: ds, bs, vs, e, r => by
    obtain ⟨v, vr, rfl, r1, r2⟩ := rl_cons r
    cases d <;> simp only [blsOf] at e <;> try (cases e; done)
    cases q : blsOf ds with
    | none => rw [q] at e; cases e
    | some bs' =>
      rw [q] at e
      cases e
      cases (show v = .bl _ from r1)
      rw [bls_ok q r2]
      rfl
theorem ints_ok {G : Hp} : ∀ {ds : List D} {bs : List Int} {vs : List V}, intsOf ds = some bs → RL K G ds vs → vs = bs.map V.int
  | [], bs, vs, e, r => by
    cases e
    exact rl_nil r
  | d :: ds, bs, vs, e, r => by
    obtain ⟨v, vr, rfl, r1, r2⟩ := rl_cons r
    cases d <;> simp only [intsOf] at e <;> try (cases e; done)
    cases q : intsOf ds with
    | none => rw [q] at e; cases e
    | some bs' =>
      rw [q] at e
      cases e
      cases (show v = .int _ from r1)
      rw [ints_ok q r2]
      rfl
theorem strs_ok {G : Hp} : ∀ {ds : List D} {bs : List Str} {vs : List V}, strsOf ds = some bs → RL K G ds vs → vs = bs.map V.str
  | [], bs, vs, e, r => by
    cases e
    exact rl_nil r
  | d :: ds, bs, vs, e, r => by
    obtain ⟨v, vr, rfl, r1, r2⟩ := rl_cons r
    cases d <;> simp only [strsOf] at e <;> try (cases e; done)
    cases q : strsOf ds with
    | none => rw [q] at e; cases e
    | some bs' =>
      rw [q] at e
      cases e
      cases (show v = .str _ from r1)
      rw [strs_ok q r2]
      rfl
theorem rl_ints {G : Hp} : ∀ (ns : List Int), RL K G (ns.map D.int) (ns.map V.int)
  | [] => RL.nil
  | n :: ns => RL.cons (d := .int n) rfl (rl_ints ns)
def cAll : List D → Option RV
  | [.lst ds] => (blsOf ds).map fun bs => .f (.bl (bs.all id))
  | _ => none
theorem co_all : CallOk K (rAll K) cAll := by
  intro G H xs ds o l hx ho Q hQ
  unfold cAll at ho
  split at ho
  · rename_i es
    obtain ⟨x, rfl, h⟩ := pr1 hx
    obtain ⟨p, vs, rfl, h1, h2⟩ := h.lst l
    cases q : blsOf es with
    | none => rw [q] at ho; cases ho
    | some bs =>
      rw [q] at ho
      cases ho
      refine ⟨p, bs, rfl, ?_, ok_val (d := .bl _) l rfl hQ⟩
      rw [← bls_ok q h2]
      exact SqL.of h1
  · cases ho
theorem de_all {p : Pos} (hc : X.calm = true) (hm : X.mg "all" = none) (ha : DA X W [e] fa) (hg : Gl X "all" := by rfl)
    (he : starEach [e] X.env = (false, eval e X.env) :: starEach [] X.env := by rfl) (hpl : (backTo pos (starEach [] X.env)).any (·.1) = false := by rfl) : DE X W (.Call (.Name "all" p) [e] [] pos) (fCB cAll fa) :=
  de_cb (cr_all hc) co_all hm (by decide +kernel) ha hg (by decide) (by decide) he hpl
def cSum : List D → Option RV
  | [.lst ds] => (intsOf ds).map fun ns => .f (.int ns.sum)
  | _ => none
theorem co_sum : CallOk K (rSum K) cSum := by
  intro G H xs ds o l hx ho Q hQ
  unfold cSum at ho
  split at ho
  · rename_i es
    obtain ⟨x, rfl, h⟩ := pr1 hx
    obtain ⟨p, vs, rfl, h1, h2⟩ := h.lst l
    cases q : intsOf es with
    | none => rw [q] at ho; cases ho
    | some bs =>
      rw [q] at ho
      cases ho
      refine ⟨p, bs, rfl, ?_, ok_val (d := .int _) l rfl hQ⟩
      rw [← ints_ok q h2]
      exact SqL.of h1
  · cases ho
theorem de_sum {p : Pos} (hc : X.calm = true) (hm : X.mg "sum" = none) (ha : DA X W [e] fa) (hg : Gl X "sum" := by rfl)
    (he : starEach [e] X.env = (false, eval e X.env) :: starEach [] X.env := by rfl) (hpl : (backTo pos (starEach [] X.env)).any (·.1) = false := by rfl) : DE X W (.Call (.Name "sum" p) [e] [] pos) (fCB cSum fa) :=
  de_cb (cr_sum hc) co_sum hm (by decide +kernel) ha hg (by decide) (by decide) he hpl
/-- a new list, told of data -/
theorem ok_newL {G H : Hp} {Q : VK} {vs : List V} {ds : List D} (l : Le G H) (r : RL K G ds vs) (hQ : ∀ v G' H', Stp (fun _ => False) G H G' H' → Le G' H' → (∀ σ, RVOk K G' H' σ v (.ol ds)) → (∀ p, ra v (.ol ds) = some p → H p = none) → Q v H') :
    ∀ p, H p = none → Q (.ref p) (upd H p (.lst vs)) := fun p hp =>
  hQ _ G _ (stp_new hp) (le_new l hp) (fun _ => ⟨p, vs, rfl, upd_same, l.free hp, r⟩) fun q e => by cases e; exact hp
theorem ok_newT {G H : Hp} {Q : VK} {vs : List V} {ds : List D} (l : Le G H) (r : RL K G ds vs) (hQ : ∀ v G' H', Stp (fun _ => False) G H G' H' → Le G' H' → (∀ σ, RVOk K G' H' σ v (.f (.tup ds))) → (∀ p, ra v (.f (.tup ds)) = some p → H p = none) → Q v H') :
    ∀ p, H p = none → Q (.ref p) (upd H p (.tup vs)) := fun p hp => hQ _ _ _ (stp_newF l hp) (le_newF l hp) (fun _ => r_newT (l.free hp) r) fun q e => nomatch e
def cList : List D → Option RV
  | [.lst ds] => some (.ol ds)
  | [.tup ds] => some (.ol ds)
  | _ => none
theorem co_list : CallOk K (fun xs H Q => ∃ p ys, xs = [.ref p] ∧ (SqL K H p ys ∨ SqT K H p ys) ∧ ∀ l, H l = none → Q (.ref l) (upd H l (.lst ys))) cList := by
  intro G H xs ds o l hx ho Q hQ
  unfold cList at ho
  split at ho
  · obtain ⟨x, rfl, h⟩ := pr1 hx
    obtain ⟨p, vs, rfl, h1, h2⟩ := h.lst l
    cases ho
    exact ⟨p, vs, rfl, .inl (SqL.of h1), ok_newL l h2 hQ⟩
  · obtain ⟨x, rfl, h⟩ := pr1 hx
    obtain ⟨p, vs, rfl, h1, h2⟩ := h.tup l
    cases ho
    exact ⟨p, vs, rfl, .inr h1, ok_newL l h2 hQ⟩
  · cases ho
theorem de_list {p : Pos} (hm : X.mg "list" = none) (ha : DA X W [e] fa) (hg : Gl X "list" := by rfl)
    (he : starEach [e] X.env = (false, eval e X.env) :: starEach [] X.env := by rfl) (hpl : (backTo pos (starEach [] X.env)).any (·.1) = false := by rfl) : DE X W (.Call (.Name "list" p) [e] [] pos) (fCB cList fa) :=
  de_ct call_list_of co_list hm (by decide +kernel) ha hg (by decide) (by decide) he hpl
def cTuple : List D → Option RV
  | [.lst ds] => some (.f (.tup ds))
  | [.tup ds] => some (.f (.tup ds))
  | _ => none
theorem co_tuple : CallOk K (fun xs H Q => ∃ p ys, xs = [.ref p] ∧ ((SqL K H p ys ∧ ∀ l, H l = none → Q (.ref l) (upd H l (.tup ys))) ∨ (SqT K H p ys ∧ Q (.ref p) H))) cTuple := by
  intro G H xs ds o l hx ho Q hQ
  unfold cTuple at ho
  split at ho
  · obtain ⟨x, rfl, h⟩ := pr1 hx
    obtain ⟨p, vs, rfl, h1, h2⟩ := h.lst l
    cases ho
    exact ⟨p, vs, rfl, .inl ⟨SqL.of h1, ok_newT l h2 hQ⟩⟩
  · rename_i es
    obtain ⟨x, rfl, h⟩ := pr1 hx
    obtain ⟨p, vs, rfl, h1, h2⟩ := h.tup l
    cases ho
    have hr : R K G (.tup es) (.ref p) := by cases h with | f h => exact h
    exact ⟨p, vs, rfl, .inr ⟨h1, ok_val l hr hQ⟩⟩
  · cases ho
theorem de_tuple {p : Pos} (hm : X.mg "tuple" = none) (ha : DA X W [e] fa) (hg : Gl X "tuple" := by rfl)
    (he : starEach [e] X.env = (false, eval e X.env) :: starEach [] X.env := by rfl) (hpl : (backTo pos (starEach [] X.env)).any (·.1) = false := by rfl) : DE X W (.Call (.Name "tuple" p) [e] [] pos) (fCB cTuple fa) :=
  de_ct call_tuple_of co_tuple hm (by decide +kernel) ha hg (by decide) (by decide) he hpl
/-! ### + and * by what stands there: ints, texts, lists, tuples -/
def oCat (d e : D) : Option RV := match d, e with
  | .int i, .int j => some (.f (.int (i + j)))
  | .str x, .str y => if x.length + y.length ≤ 100000 then some (.f (.str (x ++ y))) else none
  | .lst xs, .lst ys => if xs.length + ys.length ≤ 100000 then some (.ol (xs ++ ys)) else none
  | .tup xs, .tup ys => if xs.length + ys.length ≤ 100000 then some (.f (.tup (xs ++ ys))) else none
  | _, _ => none
def rAddAll (K : PySem.W.Frag) : R2 := fun x y H Q => rI0 (fun i j => .int (i + j)) x y H Q ∨ ((∃ i j, x = .str i ∧ y = .str j ∧ i.length + j.length ≤ sizeLine ∧ Q (.str (i ++ j)) H) ∨ (rCat x y H Q ∨ rCatA K x y H Q))
theorem oo_cat : OpOk K (rAddAll K) oCat := by
  intro G H x y d e o l hx hy ho Q hQ
  unfold oCat at ho
  split at ho
  · rename_i i j
    cases ho
    exact .inl ⟨i, j, hx.int, hy.int, ok_val (d := .int _) l rfl hQ⟩
  · rename_i i j
    by_cases h : i.length + j.length ≤ 100000
    · rw [if_pos h] at ho
      cases ho
      exact .inr (.inl ⟨i, j, hx.str, hy.str, le_line h, ok_val (d := .str _) l rfl hQ⟩)
    · rw [if_neg h] at ho
      cases ho
  · rename_i us ws
    by_cases h : us.length + ws.length ≤ 100000
    · rw [if_pos h] at ho
      cases ho
      obtain ⟨p, vs, rfl, h1, h2⟩ := hx.lst l
      obtain ⟨q, zs, rfl, k1, k2⟩ := hy.lst l
      exact .inr (.inr (.inl ⟨p, q, vs, zs, rfl, rfl, h1, k1, by rw [h2.len, k2.len]; exact le_line h, ok_newL l (RL.app h2 k2) hQ⟩))
    · rw [if_neg h] at ho
      cases ho
  · rename_i us ws
    by_cases h : us.length + ws.length ≤ 100000
    · rw [if_pos h] at ho
      cases ho
      have hxr : R K G (.tup us) x := by cases hx with | f h => exact h
      have hyr : R K G (.tup ws) y := by cases hy with | f h => exact h
      obtain ⟨p, vs, rfl, h1, h2⟩ := hx.tup l
      obtain ⟨q, zs, rfl, k1, k2⟩ := hy.tup l
      refine .inr (.inr (.inr ⟨p, q, vs, zs, rfl, rfl, h1, k1, by rw [h2.len, k2.len]; exact le_line h, fun e => ?_, fun _ e => ?_, fun _ _ => ok_newT l (RL.app h2 k2) hQ⟩))
      · have : us = [] := List.length_eq_zero_iff.mp (by rw [← h2.len, e]; rfl)
        subst this
        exact ok_val l hyr hQ
      · have : ws = [] := List.length_eq_zero_iff.mp (by rw [← k2.len, e]; rfl)
        subst this
        rw [List.append_nil] at hQ
        exact ok_val l hxr hQ
    · rw [if_neg h] at ho
      cases ho
  · cases ho
theorem op_addAll : OpR X (binaryOp .Add) (rAddAll X.K) := op_add.or (op_add_str.or (op_cat.or op_catA))
theorem de_plus (ha : DN X W a f1) (hb : DN X W b g1) : DE X W (.BinOp a .Add b pos) (fOp oCat f1 g1) := de_op op_addAll oo_cat ha hb
def repD (n : Nat) (xs : List D) : List D := (List.replicate n xs).flatten
def oRep (d e : D) : Option RV := match d, e with
  | .int i, .int j => if (small64 i || small64 j) = true then some (.f (.int (i * j))) else none
  | .lst xs, .int k => if -(2 ^ 63) ≤ k ∧ k < 2 ^ 63 ∧ xs.length * k.toNat ≤ 100000 then some (.ol (repD k.toNat xs)) else none
  | _, _ => none
end
end DL
set_option Elab.async false
set_option linter.all false
set_option maxRecDepth 100000
set_option maxHeartbeats 4000000
/-! DL10: * of lists, join, strip, is of bools, -x. -/
namespace DL
open PySem L2
section
variable {X : Cx} {W : WX'} {K : PySem.W.Frag}
variable {e a b c iter tg elt : Expr} {es ifs : List Expr} {f g h : Sl → Rs RV} {f1 g1 h1 : Sl → Rs NV} {fb gb : Sl → Rs Bool} {pos : Pos} {fa : Sl → Rs (List NV)}
theorem RL.rep {G : Hp} {ds : List D} {vs : List V} (r : RL K G ds vs) : ∀ n : Nat, RL K G (repD n ds) (List.replicate n vs).flatten
  | 0 => RL.nil
  | n + 1 => by
    unfold repD
    rw [List.replicate_succ, List.replicate_succ, List.flatten_cons, List.flatten_cons]
    exact RL.app r (RL.rep r n)
theorem oo_rep : OpOk K (fun x y H Q => rI CMul (fun i j => .int (i * j)) x y H Q ∨ rRep x y H Q) oRep := by
  intro G H x y d e o l hx hy ho Q hQ
  unfold oRep at ho
  split at ho
  · rename_i i j
    by_cases h : (small64 i || small64 j) = true
    · rw [if_pos h] at ho
      cases ho
      exact .inl ⟨i, j, hx.int, hy.int, by simpa [small64, CMul] using h, ok_val (d := .int _) l rfl hQ⟩
    · rw [if_neg h] at ho
      cases ho
  · rename_i us k
    by_cases h : -(2 ^ 63) ≤ k ∧ k < 2 ^ 63 ∧ us.length * k.toNat ≤ 100000
    · rw [if_pos h] at ho
      cases ho
      obtain ⟨p, vs, rfl, h1, h2⟩ := hx.lst l
      exact .inr ⟨p, k, vs, rfl, hy.int, h1, h.1, h.2.1, by rw [h2.len]; exact le_line h.2.2, ok_newL l (h2.rep k.toNat) hQ⟩
    · rw [if_neg h] at ho
      cases ho
  · cases ho
theorem de_times (ha : DN X W a f1) (hb : DN X W b g1) : DE X W (.BinOp a .Mult b pos) (fOp oRep f1 g1) := de_op (op_mul.or op_rep) oo_rep ha hb
/-! ### methods of texts with one argument -/
def fM1 (op : D → D → Option RV) (f g : Sl → Rs NV) : Sl → Rs RV := fOp op f g
def M1Ok (K : PySem.W.Frag) (r : V → List V → Hp → VK → Prop) (op : D → D → Option RV) : Prop :=
  ∀ G H x y d e o, Le G H → RX K G H d x → RX K G H e y → op d e = some o → ∀ Q : VK, (∀ v G' H', Stp (fun _ => False) G H G' H' → Le G' H' → (∀ σ, RVOk K G' H' σ v o) → (∀ p, ra v o = some p → H p = none) → Q v H') → (∃ z, x = .str z) ∧ r x [y] H Q
def isStr : NV → Bool
  | .f (.str _) => true
  | _ => false
/-- s.m(e): s a text -/
def fStrM (op : D → D → Option RV) (f g : Sl → Rs NV) : Sl → Rs RV := fun S => (f S).bind fun a S1 => if isStr a = true then (g S1).bind fun b S2 => lift2 op a b S2 else .no
theorem de_strM {id : String} {name : Str} {apos : Pos} {r : V → List V → Hp → VK → Prop} {op : D → D → Option RV} (slot : Slot "str" name id) (ty : typeOf (.builtin id) = pure (.type "method_descriptor")) (rule : MtR X id r) (mo : M1Ok X.K r op) (ho : DN X W a f1) (he : DN X W e g1)
    (hs : starEach [e] X.env = [(false, eval e X.env)] := by rfl) (hbase : attributeBase a name X.env (eval a X.env) = eval a X.env := by rfl) (hline : (apos.endLine == pos.line) = true := by rfl) :
    DE X W (.Call (.Attribute a name apos) [e] [] pos) (fStrM op f1 g1) := by
  obtain ⟨t1, p1, q1⟩ := ho
  obtain ⟨t2, p2, q2⟩ := he
  refine ⟨_, pe_m1 slot ty rule p1 p2 hs hbase hline, fun τ σ S G H s Q hq => ?_⟩
  refine Gd.cases (Q1 := fun x H1 => (∃ z, x = V.str z) ∧ t2 σ H1 fun y H2 => r x [y] H2 Q) bkR q1 s hq fun x a S1 G1 H1 s1 P oa hq1 => ?_
  cases a with
  | bo i => exact hq1.elim
  | f d =>
    cases d <;> try exact hq1.elim
    rename_i z
    have ex : x = .str z := oa
    refine ⟨⟨z, ex⟩, ?_⟩
    simp only [isStr, if_true] at hq1
    refine Gd.cases (Q1 := fun y H2 => r x [y] H2 Q) bkR q2 s1 hq1 fun y b S2 G2 H2 s2 P2 ob hq2 => ?_
    have oa2 : NVOk X.K G2 σ x (.f (.str z)) := NVOk.mono (n := .f (.str z)) oa P2.st.ext
    unfold lift2 at hq2
    rw [show view S2 (.f (.str z)) = some (.str z) from rfl] at hq2
    cases eb : view S2 b with
    | none => simp only [eb] at hq2; exact hq2.elim
    | some d' =>
      cases eo : op (.str z) d' with
      | none => simp only [eb, eo] at hq2; exact hq2.elim
      | some v =>
        simp only [eb, eo] at hq2
        exact (mo G2 H2 x y _ d' v s2.le (.f oa2) (view_ok s2 ob eb) eo Q fun v G' H' st l r fr => hq2 v G' H' (Pst.new s2 st l) ⟨r σ, fr⟩).2
def oStrip (d e : D) : Option RV := match d, e with
  | .str x, .str y => if x.length ≤ 100000 then some (.f (.str (Txt.stripChars x y))) else none
  | _, _ => none
theorem mo_strip : M1Ok K (fun x xs H Q => ∃ a b, x = .str a ∧ xs = [.str b] ∧ a.length ≤ sizeLine ∧ Q (.str (Txt.stripChars a b)) H) oStrip := by
  intro G H x y d e o l hx hy ho Q hQ
  unfold oStrip at ho
  split at ho
  · rename_i u w
    by_cases h : u.length ≤ 100000
    · rw [if_pos h] at ho
      cases ho
      cases hx.str
      cases hy.str
      exact ⟨⟨_, rfl⟩, u, w, rfl, rfl, le_line h, ok_val (d := .str _) l rfl hQ⟩
    · rw [if_neg h] at ho
      cases ho
  · cases ho
theorem de_strip {apos : Pos} (ho : DN X W a f1) (he : DN X W e g1) (hs : starEach [e] X.env = [(false, eval e X.env)] := by rfl) (hbase : attributeBase a "strip" X.env (eval a X.env) = eval a X.env := by rfl) (hline : (apos.endLine == pos.line) = true := by rfl) :
    DE X W (.Call (.Attribute a "strip" apos) [e] [] pos) (fStrM oStrip f1 g1) := de_strM PySem.F.slot_str_strip PySem.F.type_str_strip mt_stripChars mo_strip ho he hs hbase hline
def oJoin (d e : D) : Option RV := match d, e with
  | .str x, .lst ds => (match strsOf ds with
    | some ys => if (ys.map (·.length)).sum + ys.length * x.length ≤ 16777216 then some (.f (.str (Txt.join x ys))) else none
    | none => none)
  | _, _ => none
theorem mo_join : M1Ok K (fun x xs H Q => ∃ a p, ∃ ys : List Str, x = .str a ∧ xs = [.ref p] ∧ (SqL K H p (ys.map V.str) ∨ SqT K H p (ys.map V.str)) ∧
    (ys.map (·.length)).sum + ys.length * a.length ≤ 16777216 ∧ Q (.str (Txt.join a ys)) H) oJoin := by
  intro G H x y d e o l hx hy ho Q hQ
  unfold oJoin at ho
  split at ho
  · rename_i u ds
    split at ho
    · rename_i ys e1
      by_cases h : (ys.map (·.length)).sum + ys.length * u.length ≤ 16777216
      · rw [if_pos h] at ho
        cases ho
        cases hx.str
        obtain ⟨p, vs, rfl, h1, h2⟩ := hy.lst l
        rw [strs_ok e1 h2] at h1
        exact ⟨⟨_, rfl⟩, u, p, ys, rfl, rfl, .inl (SqL.of h1), h, ok_val (d := .str _) l rfl hQ⟩
      · rw [if_neg h] at ho
        cases ho
    · cases ho
  · cases ho
theorem de_join {apos : Pos} (ho : DN X W a f1) (he : DN X W e g1) (hs : starEach [e] X.env = [(false, eval e X.env)] := by rfl) (hbase : attributeBase a "join" X.env (eval a X.env) = eval a X.env := by rfl) (hline : (apos.endLine == pos.line) = true := by rfl) :
    DE X W (.Call (.Attribute a "join" apos) [e] [] pos) (fStrM oJoin f1 g1) := de_strM PySem.F.slot_str_join PySem.F.type_str_join mt_join mo_join ho he hs hbase hline
/-! ### is True, is not True -/
def oIsB (neg : Bool) (d e : D) : Option RV := match d, e with
  | .bl x, .bl y => some (.f (.bl (if neg = true then !decide (x = y) else decide (x = y))))
  | _, _ => none
theorem oo_isB : OpOk K rIsB (oIsB false) := by
  intro G H x y d e o l hx hy ho Q hQ
  cases d <;> try (cases ho; done)
  cases e <;> try (cases ho; done)
  rename_i i j
  cases (show some (RV.f (.bl (decide (i = j)))) = some o from ho)
  exact ⟨i, j, hx.bl, hy.bl, ok_val (d := .bl _) l rfl hQ⟩
theorem oo_notB : OpOk K rNotB (oIsB true) := by
  intro G H x y d e o l hx hy ho Q hQ
  cases d <;> try (cases ho; done)
  cases e <;> try (cases ho; done)
  rename_i i j
  cases (show some (RV.f (.bl (!decide (i = j)))) = some o from ho)
  exact ⟨i, j, hx.bl, hy.bl, ok_val (d := .bl _) l rfl hQ⟩
theorem de_isB (ha : DN X W a f1) (hb : DN X W b g1) (hm : behindInMarks .Is b = false := by rfl) : DE X W (.Compare a [.Is] [b] pos) (fOp (oIsB false) f1 g1) := de_cmp op_isBl oo_isB ha hb hm
theorem de_notB (ha : DN X W a f1) (hb : DN X W b g1) (hm : behindInMarks .IsNot b = false := by rfl) : DE X W (.Compare a [.IsNot] [b] pos) (fOp (oIsB true) f1 g1) := de_cmp op_notBl oo_notB ha hb hm
def fNeg (f : Sl → Rs NV) : Sl → Rs RV := fun S => (f S).bind fun n S1 => (iOf n S1).bind fun i S2 => .ok (.f (.int (-i))) S2
theorem de_neg (ha : DN X W a f1) : DE X W (.UnaryOp .USub a pos) (fNeg f1) := by
  obtain ⟨t, p, q⟩ := ha
  refine ⟨_, pe_un un_neg p, fun τ σ S G H s Q hq => Gd.cases (Q1 := fun x H1 => rU (fun i => .int (-i)) x H1 Q) bkR q s hq fun x n S1 G1 H1 s1 P o r => ?_⟩
  cases n with
  | bo i => exact r.elim
  | f d =>
    cases d <;> try exact r.elim
    rename_i i
    exact ⟨i, o, r _ G1 H1 (Pst.refl s1) ⟨rfl, fun _ z => nomatch z⟩⟩
/-! ### what the top has written -/
/-- a def of the text: its object, its code -/
structure Tx (K : PySem.W.Frag) (x : Str) (st : Stmt) : Prop where
  ex : ∃ (f : Addr) (fd : FuncData), PySem.W.nsIn K mainGlobals x = some (some (.ref f)) ∧ Fun K x x st f fd
theorem tx_mk {x : Str} {st : Stmt} {f : Addr} {oc : Value} {od an : Option Addr} {osl : Array (Option Value)} {kV doc pm cdv ct : Value} (a : PySem.W.nsIn K mainGlobals x = some (some (.ref f)))
    (l : K.lookup f = some ⟨oc, od, .func (PySem.W.fnOf x x (defArgs st) (defBody st) (defScope st) .none kV doc pm an cdv ct), osl⟩) (c : PySem.W.codeIn K cdv x = true) (k : PySem.W.keepIn K (.ref f) = true) : Tx K x st := ⟨_, _, a, fun_mk l c k⟩
/-- the module's names are those of the written part -/
def Wd (K : PySem.W.Frag) (mg : Str → Option Value) : Prop := ∃ h : Heap, K.In h ∧ h.Ns mainGlobals mg
theorem Wd.of {mg : Str → Option Value} {x : Str} {u : Value} (w : Wd K mg) (h : PySem.W.nsIn K mainGlobals x = some (some u)) : mg x = some u := let ⟨_, X, G⟩ := w; PySem.W.mg_of X G h
theorem Wd.no {mg : Str → Option Value} {x : Str} (w : Wd K mg) (h : PySem.W.nsIn K mainGlobals x = some none) : mg x = none := let ⟨_, X, G⟩ := w; PySem.W.mg_none_of X G h
theorem fd_denX {P : Program} {w : World} {mg : Str → Option Value} {base : Heap} {CX : CXT} {k m : Nat} {x : Str} {st : Stmt} {N ps : List Str} {F : Sl → Out} (wd : Wd K mg) (T : Tx K x st) (S : FnScope N ps (defScope st)) (hN : N.length = ps.length + m)
    (hb : ∀ (kV doc pm : Value) (an : Option Addr) (cdv ct : Value) (us : List Value), us.length = ps.length → bindArgs (PySem.W.fnOf x x (defArgs st) (defBody st) (defScope st) .none kV doc pm an cdv ct) ⟨us, []⟩ = pure (ps.zip us))
    (bd : ∀ (f : Addr) (cdv : Value) (A : Around) (outer : List Env) (s : Shared) (H : Hp) (E : XK), Cg (A.deeper (PyProof.Rows.envOfC x (defScope st) s.heap.objs.size f cdv)) k →
      DSs (cxOf CX P w K mg base N x (defScope st) f cdv A outer s H E) (fun c d _ H' => E c d H') (defBody st) F) : Fd P w K mg base CX (k + 1) x ps (bodyF m F) := by
  obtain ⟨f, fd, h1, h2⟩ := T.ex
  obtain ⟨oc, od, kV, doc, pm, an, cdv, ct, osl, _, lk, _⟩ := h2.ex
  exact ⟨f, fd, wd.of h1, h2.kp, h2.binds hb, fnG_den h2 S hN fun cdv A outer s H E cg => bd f cdv A outer s H E cg, oc, od, osl, lk⟩
theorem fd_den {P : Program} {w : World} {mg : Str → Option Value} {base : Heap} {k m : Nat} {x : Str} {st : Stmt} {N ps : List Str} {F : Sl → Out} (wd : Wd K mg) (T : Tx K x st) (S : FnScope N ps (defScope st)) (hN : N.length = ps.length + m)
    (hb : ∀ (kV doc pm : Value) (an : Option Addr) (cdv ct : Value) (us : List Value), us.length = ps.length → bindArgs (PySem.W.fnOf x x (defArgs st) (defBody st) (defScope st) .none kV doc pm an cdv ct) ⟨us, []⟩ = pure (ps.zip us))
    (bd : ∀ (f : Addr) (cdv : Value) (A : Around) (outer : List Env) (s : Shared) (H : Hp) (E : XK), Cg (A.deeper (PyProof.Rows.envOfC x (defScope st) s.heap.objs.size f cdv)) k →
      DSs (cxOf CX0 P w K mg base N x (defScope st) f cdv A outer s H E).nox W0 (defBody st) F) : Fd P w K mg base CX0 (k + 1) x ps (bodyF0 m F) := by
  obtain ⟨f, fd, h1, h2⟩ := T.ex
  obtain ⟨oc, od, kV, doc, pm, an, cdv, ct, osl, _, lk, _⟩ := h2.ex
  exact ⟨f, fd, wd.of h1, h2.kp, h2.binds hb, fnG_den0 h2 S hN fun cdv A outer s H E cg => bd f cdv A outer s H E cg, oc, od, osl, lk⟩
end
end DL
set_option Elab.async false
set_option linter.all false
set_option maxRecDepth 100000
set_option maxHeartbeats 4000000
/-! DL11: targets of lists and tuples, a starred target, written tables of texts: in, the call of what stands there. -/
namespace DL
open PySem L2
open PyProof.Rows (envOfC)
section
variable {X : Cx} {W : WX'} {K : PySem.W.Frag}
variable {e a b c iter tg elt : Expr} {es ifs : List Expr} {f g h : Sl → Rs RV} {f1 g1 h1 : Sl → Rs NV} {fb gb : Sl → Rs Bool} {pos : Pos} {fa : Sl → Rs (List NV)}
/-! ### a, b = a tuple or a list -/
def gAny (K : PySem.W.Frag) (n : Nat) (t : TGs) : TG := fun v σ H Q => gTup K n t v σ H Q ∨ gLst K n t v σ H Q
theorem pg_any {k : Nat} {t : TGs} {n : Nat} (hc : X.calm = true) (h : PGs X es t) (hn : (assignEach es X.env).length = n := by rfl) (hst : (assignEach es X.env).findIdx? (·.1) = none := by rfl) : PG X (.Tuple es k pos) (gAny X.K n t) :=
  ⟨fun pins s σ H v u Q I r hw => hw.elim (fun z => (pg_tup hc h hn hst).run pins s σ H v u Q I r z) fun z => (pg_lst hc h hn hst).run pins s σ H v u Q I r z⟩
def bAny (u : List D → Sl → Option Sl) (d : D) (S : Sl) : Option Sl := match d with
  | .tup ds => u ds S
  | .lst ds => u ds S
  | _ => none
theorem go_any {n : Nat} {u : TGs} {js : List Nat} {bu : List D → Sl → Option Sl} (h : GsOk K u js bu) (hl : ∀ ds S S', bu ds S = some S' → ds.length = n) : GOk K (gAny K n u) js (bAny bu) := by
  intro τ σ S G H d v S' s r e Q hQ
  cases d <;> try (cases e; done)
  · rename_i ds
    simp only [R] at r
    obtain ⟨a, vs, rfl, h1, h2⟩ := r
    have e' : bu ds S = some S' := e
    exact .inr ⟨a, vs, rfl, .of (s.le.lst h1), (RL.len h2).trans (hl _ _ _ e'), h τ σ S G H ds vs S' s h2 e' Q hQ⟩
  · rename_i ds
    simp only [R] at r
    obtain ⟨a, vs, rfl, h1, h2⟩ := r
    have e' : bu ds S = some S' := e
    exact .inl ⟨a, vs, rfl, s.le.sqt h1, (RL.len h2).trans (hl _ _ _ e'), h τ σ S G H ds vs S' s h2 e' Q hQ⟩
theorem dg_any {k : Nat} {u : TGs} {js : List Nat} {bu : List D → Sl → Option Sl} (hc : X.calm = true) (h : DGs X es u js bu) (hK : X.K = K := by rfl) (hn : (assignEach es X.env).length = es.length := by rfl) (hst : (assignEach es X.env).findIdx? (·.1) = none := by rfl) :
    DG X (.Tuple es k pos) (gAny K es.length u) js (bAny bu) := by
  subst hK
  exact ⟨pg_any hc h.1 hn hst, go_any h.2.1 h.2.2⟩
/-! ### a, *b = a tuple -/
section
open PySem.W PyProof.Rows
theorem starT {prog : Program} {w : World} {A : Around} {E : Value → Shared → Prop} {s : Shared} {l : Addr} {items : Array Value} {n i : Nat} {Q : List Value → Shared → Prop} (hl : IsTup s.heap l items) (hh : A.handled = none) (hi : i < n)
    (hn : n ≤ items.size + 1) (hz : items.size ≤ 16384)
    (h : ∀ h2 tk, Heap.ExtBut s.heap.objs.size s.heap h2 → wpAny (model prog w) A (newList ((items.toList.drop i).take (items.size + 1 - n))) (fun v s' => Q (items.toList.take i ++ [v] ++ (items.toList.drop i).drop (items.size + 1 - n)) s') E { s with heap := h2, toks := tk }) :
    wpAny (model prog w) A (unpackItems (.ref l) n (some i)) Q E s := by
  have hlt : l ≠ s.heap.objs.size := let ⟨o, ho, _⟩ := hl; Nat.ne_of_lt (Heap.lt_size ho)
  unfold unpackItems notIterableAtAll
  refine wpAny_bind (wpAny_bind (wpAny_specialOf hl.typeIs slot_tuple_iter.lookup (wpAny_pure ?_)))
  rw [if_neg (by simp)]
  refine wpAny_bind (wpAny_holding (iter_tuple hl (wpAny_bind (wpAny_holding (draw_tuple hlt i 0 _ _ ⟨_, Heap.get?_push_size _ rfl, rfl, rfl⟩ (hl.push _) (by omega) fun h1 it1 sm => ?_)))))
  have hl1 : IsTup h1 l items := (hl.push _).extBut sm.extBut hlt
  rw [Nat.zero_add] at it1
  have z1 : s.heap.objs.size < h1.objs.size := by obtain ⟨o, ho, _⟩ := it1; exact Heap.lt_size ho
  have z2 : l < h1.objs.size := by obtain ⟨o, ho, _⟩ := hl1; exact Heap.lt_size ho
  rw [List.drop_zero]
  have len1 : (items.toList.take i).length = i := by simp; omega
  rw [if_neg (by omega)]
  refine wpAny_bind (wpAny_holding (kun_collect (s := { s with heap := h1 }) (k := i) (.inr (.inr (.inr rfl))) (Walks.tuple (A := A.in1) hh s.heap.objs.size l hlt items) (fun j u st => st.1.typeIs) (by omega) ⟨it1, hl1⟩ z1 z2 (fun h2 tk hk => ?_) (by rw [sizeLine_eq]; omega)))
  have len2 : (items.toList.drop i).length = items.size - i := by simp
  have mid : (items.toList.drop i).length - (n - 1 - i) = items.size + 1 - n := by omega
  simp only
  rw [if_neg (by omega), mid]
  refine wpAny_bind (wpAny_mono (h h2 tk fun b o hb e => hk b o hb (sm.extBut b o hb (Heap.get?_push_of_some _ e))) (fun v s' q => wpAny_pure q) fun e s' q => q)
end
/-- names in slots i and j: the first item, a new list of the rest -/
def gStar (K : PySem.W.Frag) (i j : Nat) : TG := fun v σ H Q => ∃ a x xs, v = .ref a ∧ SqT K H a (x :: xs) ∧ xs.length ≤ 16000 ∧ ∀ p, H p = none → Q ((σ.set i (some x)).set j (some (.ref p))) (upd H p (.lst xs))
theorem pg_star {i j : Nat} {y z : Str} {p1 p2 p3 : Pos} {k : Nat} (hc : X.calm = true) (nd : X.N.Nodup) (hi : X.N[i]? = some y) (hj : X.N[j]? = some z) (hx : L2.Loc X.env.scope y) (hz : L2.Loc X.env.scope z)
    (hfy : X.fn y = true ∨ X.env.scope.names.lookup y = some .local) (hfz : X.fn z = true ∨ X.env.scope.names.lookup z = some .local) : PG X (.Tuple [.Name y p1, .Starred (.Name z p2) p3] k pos) (gStar X.K i j) := by
  refine ⟨fun pins s σ H v u Q I r hw => ?_⟩
  obtain ⟨a, x, xs, rfl, hq, hl, hw⟩ := hw
  cases r
  obtain ⟨its, rv, ht, hz'⟩ := I.tuple hq
  rw [PyProof.Rows.assign_Tuple]
  refine wpAny_bind (wpAny_standAt ?_)
  unfold unpack
  have lenI : its.length = xs.length + 1 := by rw [← rv.length]; rfl
  refine wpAny_bind (wpAny_holding (starT (n := 2) (i := 1) ht (I.ok.hd hc) (by decide) (by simp; omega) (by simp; omega) fun h2 tk hx' => ?_))
  have I1 : Inv X pins σ H { s with heap := h2, toks := tk } := I.kept (t' := tk) fun b o e => hx' b o (Nat.ne_of_lt (Heap.lt_size e)) e
  cases rv with
  | cons r0 rr =>
    rename_i v0 vr
    have e1 : (List.drop 1 (v0 :: vr).toArray.toList).take ((v0 :: vr).toArray.size + 1 - 2) = vr := by simp
    have e2 : (List.drop 1 (v0 :: vr).toArray.toList).drop ((v0 :: vr).toArray.size + 1 - 2) = [] := by simp
    have e3 : List.take 1 (v0 :: vr).toArray.toList = [v0] := by simp
    rw [e1, e2, e3]
    have hf : H h2.objs.size = none := I1.hok.fresh (Nat.le_refl _)
    have z5 : xs.length ≤ sizeLine := Nat.le_trans hl (by rw [sizeLine_eq]; decide)
    have lenR : vr.length = xs.length := by simpa using lenI
    have I2 : Inv X pins σ (upd H h2.objs.size (.lst xs)) { s with heap := h2.push { cls := .type "list", data := .seq vr.toArray }, toks := tk } :=
      I1.laid (t' := tk) (fun b u e => Heap.get?_push_of_some _ e) (Nat.le_refl _) ⟨z5, vr, 0, rr, Heap.get?_push_size _ rfl⟩
    refine wpAny_newList ?_ (by rw [lenR]; exact z5)
    exact (pgs_cons (pg_name (pos := p1) nd hi hx hfy) (pgs_cons (pg_name (pos := p2) nd hj hz hfz) pgs_nil)).run pins _ σ _ [x, .ref h2.objs.size] _ Q I2 (.cons r0 (.cons rfl .nil)) ⟨_, _, rfl, _, _, rfl, rfl, hw _ hf⟩
def sStar (i j : Nat) (f : Sl → Rs NV) : Sl → Out := fun S => bindS (f S) fun n S1 => match n with
  | .f (.tup (d :: ds)) => if ds.length ≤ 16000 then .nx ((S1.set i (.f d)).set j (.ol none ds)) else .no
  | _ => .no
theorem ds_star (i j : Nat) {y z : Str} {p1 p2 p3 : Pos} {k : Nat} (hc : X.calm = true) (nd : X.N.Nodup) (he : DN X W e f1) (hi : X.N[i]? = some y := by rfl) (hj : X.N[j]? = some z := by rfl) (hx : L2.Loc X.env.scope y := by first | exact Or.inl rfl | exact Or.inr rfl)
    (hz : L2.Loc X.env.scope z := by first | exact Or.inl rfl | exact Or.inr rfl)
    (hfy : X.fn y = true ∨ X.env.scope.names.lookup y = some .local := by first | exact .inl rfl | exact .inr rfl | assumption) (hfz : X.fn z = true ∨ X.env.scope.names.lookup z = some .local := by first | exact .inl rfl | exact .inr rfl | assumption)
    (hs : swapsWithSole [.Tuple [.Name y p1, .Starred (.Name z p2) p3] k q] e pos.line X.env = pure false := by rfl) (hw : swappedStores [.Tuple [.Name y p1, .Starred (.Name z p2) p3] k q] e X.env = pure none := by rfl)
    (h1 : (assignEach [.Tuple [.Name y p1, .Starred (.Name z p2) p3] k q] X.env).map (·.2) = [assign (.Tuple [.Name y p1, .Starred (.Name z p2) p3] k q) X.env] := by rfl) :
    DS X W (.Assign [.Tuple [.Name y p1, .Starred (.Name z p2) p3] k q] e pos) (sStar i j f1) := by
  obtain ⟨t, p, qd⟩ := he
  refine ⟨_, ps_asg p (pg_star hc nd hi hj hx hz hfy hfz) hs hw h1, fun τ σ S G H s D hq => Gs.cases (Q1 := fun x H1 => gStar X.K i j x σ H1 D.nx) qd s hq fun x n S1 G1 H1 s1 P o r => ?_⟩
  cases n with
  | bo i => exact r.elim
  | f d =>
    cases d <;> try exact r.elim
    rename_i ds
    cases ds with
    | nil => exact r.elim
    | cons d ds =>
      by_cases hl : ds.length ≤ 16000
      · simp only [if_pos hl] at r
        have o' : R X.K G1 (.tup (d :: ds)) x := o
        simp only [R, R.RL] at o'
        obtain ⟨a, vs, rfl, k1, v, vr, rfl, k2, k3⟩ := o'
        refine ⟨a, v, vr, rfl, s1.le.sqt k1, by rw [RL.len k3]; exact hl, fun p hp => ?_⟩
        have P2 := Pst.new s1 (stp_new (o := .lst vr) hp) (le_new (o := .lst vr) s1.le hp)
        obtain ⟨s3, ow3⟩ := sl_set (i := i) P2.sl (sv := .f d) ⟨v, rfl, k2⟩ fun _ z => nomatch z
        have fresh : ∀ q, oa (some (.ref p)) (SV.ol none ds) = some q → ¬ Ow (σ.set i (some v)) (S1.set i (.f d)) q := fun q eq zq => by
          cases eq
          rcases ow3 p zq with z | z
          · exact (s1.owned z).1 hp
          · cases z
        obtain ⟨s4, ow4⟩ := sl_set (i := j) s3 (v := .ref p) (sv := .ol none ds) ⟨p, vr, rfl, upd_same, s1.le.free hp, k3, fun _ z => nomatch z⟩ fresh
        refine r _ G1 _ ⟨P2.st, s4, fun q zq => ?_⟩
        rcases ow4 q zq with z | z
        · rcases ow3 q z with z | z
          · exact .inl z
          · cases z
        · cases z
          exact .inr hp
      · simp only [if_neg hl] at r
        exact r.elim
/-! ### a written table: x in T, T[x](..) -/
/-- the table at name x holds the keys ks -/
structure Tb (K : PySem.W.Frag) (w : World) (x : Str) (ks : List Str) : Prop where
  ex : ∃ d es n, PySem.W.nsIn K mainGlobals x = some (some (.ref d)) ∧ KDict K w d es n ∧ ∀ z ∈ ks, ∃ u, PySem.W.nsIn K d z = some (some u)
/-- .. under z the def of that name -/
structure TbD (K : PySem.W.Frag) (w : World) (x : Str) (ks : List (Str × Str)) : Prop where
  ex : ∃ d es n, PySem.W.nsIn K mainGlobals x = some (some (.ref d)) ∧ KDict K w d es n ∧ ∀ z ∈ ks, ∃ f, PySem.W.nsIn K d z.1 = some (some (.ref f)) ∧ PySem.W.nsIn K mainGlobals z.2 = some (some (.ref f))
theorem TbD.tb {w : World} {x : Str} {ks : List (Str × Str)} (t : TbD K w x ks) : Tb K w x (ks.map (·.1)) := by
  obtain ⟨d, es, n, h1, h2, h3⟩ := t.ex
  refine ⟨d, es, n, h1, h2, fun z hz => ?_⟩
  obtain ⟨p, hp, rfl⟩ := List.mem_map.mp hz
  obtain ⟨f, q, _⟩ := h3 p hp
  exact ⟨_, q⟩
def fInT (neg : Bool) (ks : List Str) (f : Sl → Rs NV) : Sl → Rs RV := fun S => (f S).bind fun n S1 => match n with
  | .f (.str z) => if z ∈ ks then .ok (.f (.bl (!neg))) S1 else .no
  | _ => .no
theorem den_inT {te : TE} {w : World} {d : Addr} {ks : List Str} (neg : Bool) (hk : ∀ z ∈ ks, ∃ u, PySem.W.nsIn K d z = some (some u)) (q : DenN K W te f1) :
    Den K W (tOp (fun x y H Q => ∃ (z : Str) (r : Option Value), x = .str z ∧ y = .ref d ∧ PySem.W.nsIn K d z = some r ∧ Q (.bl (if neg = true then !r.isSome else r.isSome)) H) te (tC (.ref d))) (fInT neg ks f1) := by
  intro τ σ S G H s Q hq
  refine Gd.cases (Q1 := fun x H1 => ∃ (z : Str) (r : Option Value), x = .str z ∧ V.ref d = .ref d ∧ PySem.W.nsIn K d z = some r ∧ Q (.bl (if neg = true then !r.isSome else r.isSome)) H1) bkR q s hq fun x n S1 G1 H1 s1 P o r => ?_
  cases n with
  | bo i => exact r.elim
  | f d' =>
    cases d' <;> try exact r.elim
    rename_i z
    cases (show x = .str z from o)
    by_cases h : z ∈ ks
    · simp only [if_pos h] at r
      obtain ⟨u, hu⟩ := hk z h
      refine ⟨z, some u, rfl, rfl, hu, ?_⟩
      have e : (if neg = true then !(some u).isSome else (some u).isSome) = !neg := by cases neg <;> rfl
      rw [e]
      exact r _ G1 H1 (Pst.refl s1) ⟨rfl, fun _ z => nomatch z⟩
    · simp only [if_neg h] at r
      exact r.elim
theorem de_inT {x : Str} {p : Pos} {ks : List Str} (wd : Wd X.K X.mg) (t : Tb X.K X.w x ks) (ha : DN X W a f1) (hg : Gl X x := by rfl) (hdb : (x == ("__debug__" : Str)) = false := by decide) (hm : behindInMarks .In (.Name x p) = false := by rfl) :
    DE X W (.Compare a [.In] [.Name x p] pos) (fInT false ks f1) := by
  obtain ⟨d, es, n, h1, h2, h3⟩ := t.ex
  obtain ⟨ta, p1, d1⟩ := ha
  exact ⟨_, pe_cmpR (op_in_kd h2) p1 (pe_glob (v := .ref d) hg (wd.of h1) rfl hdb) hm, den_inT (w := X.w) false h3 d1⟩
theorem de_notInT {x : Str} {p : Pos} {ks : List Str} (wd : Wd X.K X.mg) (t : Tb X.K X.w x ks) (ha : DN X W a f1) (hg : Gl X x := by rfl) (hdb : (x == ("__debug__" : Str)) = false := by decide) (hm : behindInMarks .NotIn (.Name x p) = false := by rfl) :
    DE X W (.Compare a [.NotIn] [.Name x p] pos) (fInT true ks f1) := by
  obtain ⟨d, es, n, h1, h2, h3⟩ := t.ex
  obtain ⟨ta, p1, d1⟩ := ha
  exact ⟨_, pe_cmpR (op_notIn_kd h2) p1 (pe_glob (v := .ref d) hg (wd.of h1) rfl hdb) hm, den_inT (w := X.w) true h3 d1⟩
/-- T[e](..): what stands under each word -/
def fDisp (tab : List (Str × (Sl → Rs RV))) (f : Sl → Rs NV) (fa : Sl → Rs (List NV)) : Sl → Rs RV := fun S => (f S).bind fun n S1 => match n with
  | .f (.str z) => (match tab.lookup z with
    | some F => fCall F fa S1
    | none => .no)
  | _ => .no
/-- the table's defs, each under its word -/
structure TbF (P : Program) (w : World) (K : PySem.W.Frag) (mg : Str → Option Value) (base : Heap) (CX : CXT) (k m : Nat) (x : Str) (tab : List (Str × (Sl → Rs RV))) : Prop where
  ex : ∃ d es n, mg x = some (.ref d) ∧ KDict K w d es n ∧ ∀ z F, tab.lookup z = some F → ∃ f fd ps, PySem.W.nsIn K d z = some (some (.ref f)) ∧ PySem.W.keepIn K (.ref f) = true ∧ Binds K fd ps [] ∧ ps.length = m ∧ FnG P w K mg base CX k f fd ps (spD K m F)
theorem tbf_nil {P : Program} {w : World} {mg : Str → Option Value} {base : Heap} {CX : CXT} {k m : Nat} {x : Str} {ks : List (Str × Str)} (wd : Wd K mg) (t : TbD K w x ks) : TbF P w K mg base CX k m x [] := by
  obtain ⟨d, es, n, h1, h2, h3⟩ := t.ex
  exact ⟨d, es, n, wd.of h1, h2, fun z F e => by cases e⟩
theorem FnG.mono {P : Program} {w : World} {mg : Str → Option Value} {base : Heap} {CX : CXT} {j k : Nat} {f : Addr} {fd : FuncData} {ps : List Str} {sp : Sp} (h : FnG P w K mg base CX j f fd ps sp) (l : j ≤ k) : FnG P w K mg base CX k f fd ps sp :=
  ⟨h.arity, fun A outer s H args us vs Q E cg => h.go A outer s H args us vs Q E (cg.mono l)⟩
theorem tbf_cons {P : Program} {w : World} {mg : Str → Option Value} {base : Heap} {CX : CXT} {j k m : Nat} {x z y : Str} {ks : List (Str × Str)} {ps : List Str} {F : Sl → Rs RV} {tab : List (Str × (Sl → Rs RV))} (wd : Wd K mg) (t : TbD K w x ks) (hz : (z, y) ∈ ks)
    (fd : Fd P w K mg base CX j y ps F) (hj : j ≤ k) (hm : ps.length = m) (r : TbF P w K mg base CX k m x tab) : TbF P w K mg base CX k m x ((z, F) :: tab) := by
  obtain ⟨d, es, n, h1, h2, h3⟩ := t.ex
  obtain ⟨d', es', n', k1, k2, k3⟩ := r.ex
  have hd := wd.of h1
  rw [k1] at hd
  have ed : d' = d := Value.ref.inj (Option.some.inj hd)
  subst ed
  refine ⟨d', es', n', k1, k2, fun z' F' e => ?_⟩
  rw [List.lookup_cons] at e
  by_cases q : (z' == z) = true
  · rw [q] at e
    cases e
    have q' : z' = z := by simpa using q
    subst q'
    obtain ⟨f, fdat, g1, g2, g3, g4, _⟩ := fd.ex
    obtain ⟨f', u1, u2⟩ := h3 (z', y) hz
    have hf := wd.of u2
    rw [g1] at hf
    cases hf
    exact ⟨f, fdat, ps, u1, g2, g3, hm, by rw [← hm]; exact g4.mono hj⟩
  · rw [Bool.eq_false_iff.mpr q] at e
    exact k3 z' F' e
def tDisp (d : Addr) (te : TE) (C : Value → TE) : TE := fun σ H Q => te σ H fun x H1 => ∃ z u, x = V.str z ∧ C u σ H1 Q
theorem de_disp {x : Str} {p q : Pos} {k k' m : Nat} {CX : CXT} {tab : List (Str × (Sl → Rs RV))} (t : TbF X.prog X.w X.K X.mg X.base CX k m x tab) (cg : Cg X.A k') (hk : k ≤ k') (hx : PassW CX X W) (hw : DN X W a f1) (hn : m = (e :: es).length) (ha : DA X W (e :: es) fa)
    (hg : Gl X x := by rfl) (hdb : (x == ("__debug__" : Str)) = false := by decide) (hp : PlainIx a := by exact fun _ _ => rfl)
    (ht : eval (.Call (.Subscript (.Name x p) a q) (e :: es) [] pos) X.env = (do callWith pos (← eval (.Subscript (.Name x p) a q) X.env) [] (backTo pos (starEach (e :: es) X.env)) (backToKw pos (keywordEach [] X.env))) := by rfl)
    (he : starEach (e :: es) X.env = (false, eval e X.env) :: starEach es X.env := by rfl) (hpl : (backTo pos (starEach es X.env)).any (·.1) = false := by rfl) :
    DE X W (.Call (.Subscript (.Name x p) a q) (e :: es) [] pos) (fDisp tab f1 fa) := by
  obtain ⟨d, es', n, h1, h2, h3⟩ := t.ex
  obtain ⟨tw, pw, qw⟩ := hw
  obtain ⟨ta, pa, qa, ln⟩ := ha
  refine ⟨fun σ H Q => tOp (rIxD X.K X.w) (tC (.ref d)) tw σ H fun v H1 => ∃ f F fd ps, v = .ref f ∧ PySem.W.keepIn X.K (.ref f) = true ∧ Binds X.K fd ps [] ∧ FnG X.prog X.w X.K X.mg X.base CX k f fd ps (spD X.K m F) ∧ tCl (spD X.K m F) W ta σ H1 Q, ?_, ?_⟩
  · refine ⟨fun pins s σ H Q I h => ?_⟩
    refine PyProof.Rows.Call_ (thn ((pe_ix ix_kdict (pe_glob (v := .ref d) hg h1 rfl hdb) pw hp).run pins s σ H _ I h) fun u s1 ⟨y, H1, I1, ry, f, F, fd, ps, ey, g1, g2, g3, q'⟩ => ?_) ht
    subst ey
    obtain rfl : u = Value.ref f := ry
    refine PySem.W.callWith_K (h₀ := X.base) I1.ok.mod.kin g1 (thn (pa.run pos pins s1 σ H1 _ I1 q') fun us s2 ⟨vs, H2, I2, r, q2⟩ => ⟨I2.kIn, ?_⟩) he hpl
    exact run_fnG g3 (cg.mono hk) g2 (fun e s' z => hx pins σ H2 s2 e s' I2 z) I2 r q2
  · intro τ σ S G H s Q hq
    refine Gd.cases (Q1 := fun y H1 => rIxD X.K X.w (.ref d) y H1 fun v H1 => ∃ f F fd ps, v = .ref f ∧ PySem.W.keepIn X.K (.ref f) = true ∧ Binds X.K fd ps [] ∧ FnG X.prog X.w X.K X.mg X.base CX k f fd ps (spD X.K m F) ∧ tCl (spD X.K m F) W ta σ H1 Q) bkR qw s hq fun y nv S1 G1 H1 s1 P o r => ?_
    cases nv with
    | bo i => exact r.elim
    | f d' =>
      cases d' <;> try exact r.elim
      rename_i z
      cases (show y = .str z from o)
      cases e0 : tab.lookup z with
      | none => simp only [e0] at r; exact r.elim
      | some F =>
        simp only [e0] at r
        obtain ⟨f, fd, ps, u1, u2, u3, u4, u5⟩ := h3 z F e0
        exact ⟨d, z, .ref f, rfl, rfl, ⟨es', n, .ref f, h2.at_, h2.lit, u1, rfl⟩, f, F, fd, ps, rfl, u2, u3, u5, den_call (by rw [hn]; exact ln) qa τ σ S1 G1 H1 s1 Q r⟩
end
end DL
set_option Elab.async false
set_option linter.all false
set_option maxRecDepth 100000
set_option maxHeartbeats 4000000
/-! DL12: repr of data, dicts of pairs, len of dicts, .items(), enumerate of any row, keywords, += in place. -/
namespace DL
open PySem L2
section
variable {X : Cx} {W : WX'} {K : PySem.W.Frag}
variable {e a b c iter tg elt : Expr} {es ifs : List Expr} {f g h : Sl → Rs RV} {f1 g1 h1 : Sl → Rs NV} {fb gb : Sl → Rs Bool} {pos : Pos} {fa : Sl → Rs (List NV)}
/-! ### repr -/
mutual
/-- leaves that repr can show in short -/
def rok : D → Bool
  | .non => true
  | .bl _ => true
  | .int i => decide (0 ≤ i ∧ i < 10 ^ 25)
  | .str x => x.cps.toList.all fun c => decide (c < 16 ^ 8)
  | .lst ds => rokL ds
  | .tup ds => rokL ds
  | _ => false
def rokL : List D → Bool
  | [] => true
  | d :: ds => rok d && rokL ds
end
mutual
def pyd : D → PyData
  | .non => .none
  | .bl b => .bool b
  | .int i => .int i
  | .str x => .str x
  | .lst ds => .list (pydL ds)
  | .tup ds => .tuple (pydL ds)
  | _ => .none
def pydL : List D → List PyData
  | [] => []
  | d :: ds => pyd d :: pydL ds
end
mutual
def dep : D → Nat
  | .lst ds => depL ds + 1
  | .tup ds => depL ds + 1
  | _ => 0
def depL : List D → Nat
  | [] => 0
  | d :: ds => max (dep d) (depL ds)
end
mutual
def wD : D → Nat
  | .int _ => 100
  | .str x => x.length
  | .lst ds => wL ds
  | .tup ds => wL ds
  | _ => 0
def wL : List D → Nat
  | [] => 0
  | d :: ds => wD d + 1 + wL ds
end
theorem int_log {i : Int} (h : 0 ≤ i ∧ i < 10 ^ 25) : i.natAbs.log2 < 99 := by
  have h1 : i.natAbs < 2 ^ 99 := by
    have : (10 : Int) ^ 25 = ((10 ^ 25 : Nat) : Int) := by decide
    have e2 : (10 : Nat) ^ 25 < 2 ^ 99 := by decide
    omega
  by_cases h0 : i.natAbs = 0
  · rw [h0]; decide
  · exact (Nat.log2_lt h0).mpr h1
theorem int_short {i : Int} (h : 0 ≤ i ∧ i < 10 ^ 25) : (PyData.shown (.int i)).length ≤ 30 := by
  simp only [PyData.shown]
  exact Nat.le_trans (PyProof.Rows.toString_length_le h.1 (k := 25) (by decide) h.2) (by decide)
mutual
theorem rok_py : ∀ d : D, rok d = true → py d = some (pyd d) ∧ (pyd d).showable = true ∧ (pyd d).hasDict = false ∧ (pyd d).leavesShort 30 = true ∧ (pyd d).depth ≤ dep d ∧ (pyd d).weight ≤ wD d
  | .non, _ => ⟨by simp only [py, pyd], by simp only [pyd, PyData.showable], by simp only [pyd, PyData.hasDict], by simp only [pyd, PyData.leavesShort], by simp [pyd, PyData.depth], by simp [pyd, PyData.weight]⟩
  | .bl b, _ => ⟨by simp only [py, pyd], by simp only [pyd, PyData.showable], by simp only [pyd, PyData.hasDict], by simp only [pyd, PyData.leavesShort], by simp [pyd, PyData.depth], by simp [pyd, PyData.weight]⟩
  | .int i, h => by
    simp only [rok, decide_eq_true_eq] at h
    have l1 := int_log h
    have l2 := int_short h
    refine ⟨by simp only [py, pyd], by simp only [pyd, PyData.showable, decide_eq_true_eq]; omega, by simp only [pyd, PyData.hasDict], by simp only [pyd, PyData.leavesShort, decide_eq_true_eq]; exact l2, by simp [pyd, PyData.depth], ?_⟩
    simp only [pyd, PyData.weight, wD]
    split <;> omega
  | .str x, h => by
    simp only [rok] at h
    exact ⟨by simp only [py, pyd], by simp only [pyd, PyData.showable], by simp only [pyd, PyData.hasDict], by simp only [pyd, PyData.leavesShort]; exact h, by simp [pyd, PyData.depth], by simp only [pyd, PyData.weight, wD]; exact Nat.le_refl _⟩
  | .lst ds, h => by
    simp only [rok] at h
    obtain ⟨h1, h2, h3, h4, h5, h6⟩ := rok_pyL ds h
    exact ⟨by simp only [py, pyd, h1, Option.map_some], by simp only [pyd, PyData.showable, h2], by simp only [pyd, PyData.hasDict, h3], by simp only [pyd, PyData.leavesShort, h4], by simp only [pyd, PyData.depth, dep]; omega, by simp only [pyd, PyData.weight, wD]; exact h6⟩
  | .tup ds, h => by
    simp only [rok] at h
    obtain ⟨h1, h2, h3, h4, h5, h6⟩ := rok_pyL ds h
    exact ⟨by simp only [py, pyd, h1, Option.map_some], by simp only [pyd, PyData.showable, h2], by simp only [pyd, PyData.hasDict, h3], by simp only [pyd, PyData.leavesShort, h4], by simp only [pyd, PyData.depth, dep]; omega, by simp only [pyd, PyData.weight, wD]; exact h6⟩
  | .ref _, h | .ty _, h | .dic _ _, h | .ins _ _ _, h | .scr _, h | .xob _ _ _, h => by simp [rok] at h
theorem rok_pyL : ∀ ds : List D, rokL ds = true → pyL ds = some (pydL ds) ∧ PyData.showableAll (pydL ds) = true ∧ PyData.hasDictAll (pydL ds) = false ∧ PyData.leavesShortAll 30 (pydL ds) = true ∧ PyData.depthAll (pydL ds) ≤ depL ds ∧ PyData.weightAll (pydL ds) ≤ wL ds
  | [], _ => ⟨by simp only [pyL, pydL], by simp only [pydL, PyData.showableAll], by simp only [pydL, PyData.hasDictAll], by simp only [pydL, PyData.leavesShortAll], by simp [pydL, PyData.depthAll], by simp [pydL, PyData.weightAll]⟩
  | d :: ds, h => by
    simp only [rokL, Bool.and_eq_true] at h
    obtain ⟨g1, g2, g3, g4, g5, g6⟩ := rok_py d h.1
    obtain ⟨h1, h2, h3, h4, h5, h6⟩ := rok_pyL ds h.2
    refine ⟨by simp only [pyL, pydL, g1, h1, Option.bind_some, Option.map_some], by simp only [pydL, PyData.showableAll, g2, h2, Bool.and_self], by simp only [pydL, PyData.hasDictAll, g3, h3, Bool.or_self], by simp only [pydL, PyData.leavesShortAll, g4, h4, Bool.and_self], ?_, ?_⟩
    · simp only [pydL, PyData.depthAll, depL]; omega
    · simp only [pydL, PyData.weightAll, wL]; omega
end
mutual
/-- leaves that are shorter still -/
def ros : D → Bool
  | .non => true
  | .bl _ => true
  | .int i => decide (0 ≤ i ∧ i < 10 ^ 10)
  | .str x => x.cps.toList.all fun c => decide (c < 16 ^ 8)
  | .lst ds => rosL ds
  | .tup ds => rosL ds
  | _ => false
def rosL : List D → Bool
  | [] => true
  | d :: ds => ros d && rosL ds
end
mutual
def wS : D → Nat
  | .int _ => 34
  | .str x => x.length
  | .lst ds => wSL ds
  | .tup ds => wSL ds
  | _ => 0
def wSL : List D → Nat
  | [] => 0
  | d :: ds => wS d + 1 + wSL ds
end
theorem int_logS {i : Int} (h : 0 ≤ i ∧ i < 10 ^ 10) : i.natAbs.log2 < 34 := by
  have h1 : i.natAbs < 2 ^ 34 := by
    have : (10 : Int) ^ 10 = ((10 ^ 10 : Nat) : Int) := by decide
    have e2 : (10 : Nat) ^ 10 < 2 ^ 34 := by decide
    omega
  by_cases h0 : i.natAbs = 0
  · rw [h0]; decide
  · exact (Nat.log2_lt h0).mpr h1
theorem int_shortS {i : Int} (h : 0 ≤ i ∧ i < 10 ^ 10) : (PyData.shown (.int i)).length ≤ 13 := by
  simp only [PyData.shown]
  exact Nat.le_trans (PyProof.Rows.toString_length_le h.1 (k := 10) (by decide) h.2) (by decide)
mutual
theorem ros_py : ∀ d : D, ros d = true → py d = some (pyd d) ∧ (pyd d).showable = true ∧ (pyd d).hasDict = false ∧ (pyd d).leavesShort 13 = true ∧ (pyd d).depth ≤ dep d ∧ (pyd d).weight ≤ wS d
  | .non, _ => ⟨by simp only [py, pyd], by simp only [pyd, PyData.showable], by simp only [pyd, PyData.hasDict], by simp only [pyd, PyData.leavesShort], by simp [pyd, PyData.depth], by simp [pyd, PyData.weight]⟩
  | .bl b, _ => ⟨by simp only [py, pyd], by simp only [pyd, PyData.showable], by simp only [pyd, PyData.hasDict], by simp only [pyd, PyData.leavesShort], by simp [pyd, PyData.depth], by simp [pyd, PyData.weight]⟩
  | .int i, h => by
    simp only [ros, decide_eq_true_eq] at h
    have l1 := int_logS h
    have l2 := int_shortS h
    refine ⟨by simp only [py, pyd], by simp only [pyd, PyData.showable, decide_eq_true_eq]; omega, by simp only [pyd, PyData.hasDict], by simp only [pyd, PyData.leavesShort, decide_eq_true_eq]; exact l2, by simp [pyd, PyData.depth], ?_⟩
    simp only [pyd, PyData.weight, wS]
    split <;> omega
  | .str x, h => by
    simp only [ros] at h
    exact ⟨by simp only [py, pyd], by simp only [pyd, PyData.showable], by simp only [pyd, PyData.hasDict], by simp only [pyd, PyData.leavesShort]; exact h, by simp [pyd, PyData.depth], by simp only [pyd, PyData.weight, wS]; exact Nat.le_refl _⟩
  | .lst ds, h => by
    simp only [ros] at h
    obtain ⟨h1, h2, h3, h4, h5, h6⟩ := ros_pyL ds h
    exact ⟨by simp only [py, pyd, h1, Option.map_some], by simp only [pyd, PyData.showable, h2], by simp only [pyd, PyData.hasDict, h3], by simp only [pyd, PyData.leavesShort, h4], by simp only [pyd, PyData.depth, dep]; omega, by simp only [pyd, PyData.weight, wS]; exact h6⟩
  | .tup ds, h => by
    simp only [ros] at h
    obtain ⟨h1, h2, h3, h4, h5, h6⟩ := ros_pyL ds h
    exact ⟨by simp only [py, pyd, h1, Option.map_some], by simp only [pyd, PyData.showable, h2], by simp only [pyd, PyData.hasDict, h3], by simp only [pyd, PyData.leavesShort, h4], by simp only [pyd, PyData.depth, dep]; omega, by simp only [pyd, PyData.weight, wS]; exact h6⟩
  | .ref _, h | .ty _, h | .dic _ _, h | .ins _ _ _, h | .scr _, h | .xob _ _ _, h => by simp [ros] at h
theorem ros_pyL : ∀ ds : List D, rosL ds = true → pyL ds = some (pydL ds) ∧ PyData.showableAll (pydL ds) = true ∧ PyData.hasDictAll (pydL ds) = false ∧ PyData.leavesShortAll 13 (pydL ds) = true ∧ PyData.depthAll (pydL ds) ≤ depL ds ∧ PyData.weightAll (pydL ds) ≤ wSL ds
  | [], _ => ⟨by simp only [pyL, pydL], by simp only [pydL, PyData.showableAll], by simp only [pydL, PyData.hasDictAll], by simp only [pydL, PyData.leavesShortAll], by simp [pydL, PyData.depthAll], by simp [pydL, PyData.weightAll]⟩
  | d :: ds, h => by
    simp only [rosL, Bool.and_eq_true] at h
    obtain ⟨g1, g2, g3, g4, g5, g6⟩ := ros_py d h.1
    obtain ⟨h1, h2, h3, h4, h5, h6⟩ := ros_pyL ds h.2
    refine ⟨by simp only [pyL, pydL, g1, h1, Option.bind_some, Option.map_some], by simp only [pydL, PyData.showableAll, g2, h2, Bool.and_self], by simp only [pydL, PyData.hasDictAll, g3, h3, Bool.or_self], by simp only [pydL, PyData.leavesShortAll, g4, h4, Bool.and_self], ?_, ?_⟩
    · simp only [pydL, PyData.depthAll, depL]; omega
    · simp only [pydL, PyData.weightAll, wSL]; omega
end
/-- the text of repr -/
def rp (d : D) : Str := (pyd d).shown
def okRp (d : D) : Bool := (rok d && decide (dep d ≤ 60) && decide (wD d ≤ 400000)) || (ros d && decide (dep d ≤ 60) && decide (wS d ≤ 1048576))
def rRepr (K : PySem.W.Frag) : List V → Hp → VK → Prop := fun xs H Q => ∃ a p, xs = [V.ref a] ∧ Dp K H (.ref a) p ∧ p.showable = true ∧ p.hasDict = false ∧ p.depth ≤ 60 ∧ p.shown.length ≤ sizeLine ∧ Q (.str p.shown) H
theorem call_repr {k : Nat} (cg : Cg X.A k) : CallR X (.builtin "repr") (rRepr X.K) := by
  intro pins s σ H xs us Q I r h
  obtain ⟨a, p, rfl, dp, h1, h2, h3, h4, q⟩ := h
  obtain ⟨u, rfl, rx⟩ := vals1 r
  cases rx
  obtain ⟨as, rd⟩ := Dp.reads I p _ _ dp (show RelV (.ref a) (.ref a) from rfl)
  refine repr_of_reads' rd h1 (PyData.noDict_hsm h2) cg.gd (by have := cg.room.units; omega) (fun _ _ e => e) (fun h' u tk hk => ?_) h4
  exact ⟨.str p.shown, H, I.kept (t' := tk) hk, ⟨u, rfl⟩, q⟩
/-! a dict whose values are short ints -/
def pk : Key → PyData
  | .inl i => .int i
  | .inr x => .str x
def okK : Key → Bool
  | .inl i => rok (.int i)
  | .inr x => rok (.str x)
def kD : Key → D
  | .inl i => .int i
  | .inr x => .str x
def intV : D → Bool
  | .int i => rok (.int i)
  | _ => false
def pyKv : List Key → List D → List (PyData × PyData)
  | k :: ks, d :: ds => (pk k, pyd d) :: pyKv ks ds
  | _, _ => []
def okDic (ks : List Key) (ds : List D) : Bool := ks.all okK && ds.all intV && decide (ds.length ≤ 1000) && decide ((ks.map fun k => wD (kD k)).sum ≤ 100000)
theorem okK_at {k : Key} (h : okK k = true) : (pk k).showable = true ∧ (pk k).leavesShort 30 = true ∧ (pk k).weight ≤ wD (kD k) ∧ (pk k).depth = 0 := by
  cases k with
  | inl i =>
    obtain ⟨_, h2, _, h4, h5, h6⟩ := rok_py (.int i) h
    exact ⟨h2, h4, h6, by simp [pk, PyData.depth]⟩
  | inr x =>
    obtain ⟨_, h2, _, h4, h5, h6⟩ := rok_py (.str x) h
    exact ⟨h2, h4, h6, by simp [pk, PyData.depth]⟩
theorem intV_at {d : D} (h : intV d = true) : ∃ i, d = .int i ∧ (pyd d).showable = true ∧ (pyd d).leavesShort 30 = true ∧ (pyd d).weight ≤ 100 ∧ (pyd d).depth = 0 := by
  cases d <;> try (simp [intV] at h; done)
  rename_i i
  obtain ⟨_, h2, _, h4, h5, h6⟩ := rok_py (.int i) h
  exact ⟨i, rfl, h2, h4, h6, by simp [pyd, PyData.depth]⟩
theorem pyKv_ok : ∀ (ks : List Key) (ds : List D), ks.all okK = true → ds.all intV = true → PyData.showableKv (pyKv ks ds) = true ∧ PyData.leavesShortKv 30 (pyKv ks ds) = true ∧ PyData.weightKv (pyKv ks ds) ≤ (ks.map fun k => wD (kD k)).sum + 102 * ds.length ∧ PyData.depthKv (pyKv ks ds) = 0
  | [], ds, _, _ => ⟨by simp [pyKv, PyData.showableKv], by simp [pyKv, PyData.leavesShortKv], by simp [pyKv, PyData.weightKv], by simp [pyKv, PyData.depthKv]⟩
  | k :: ks, [], _, _ => ⟨by simp [pyKv, PyData.showableKv], by simp [pyKv, PyData.leavesShortKv], by simp [pyKv, PyData.weightKv], by simp [pyKv, PyData.depthKv]⟩
  | k :: ks, d :: ds, h1, h2 => by
    simp only [List.all_cons, Bool.and_eq_true] at h1 h2
    obtain ⟨a1, a2, a3, a4⟩ := okK_at h1.1
    obtain ⟨i, _, b1, b2, b3, b4⟩ := intV_at h2.1
    obtain ⟨c1, c2, c3, c4⟩ := pyKv_ok ks ds h1.2 h2.2
    refine ⟨by simp only [pyKv, PyData.showableKv, a1, b1, c1, Bool.and_self], by simp only [pyKv, PyData.leavesShortKv, a2, b2, c2, Bool.and_self], ?_, by simp only [pyKv, PyData.depthKv, a4, b4, c4]; rfl⟩
    simp only [pyKv, PyData.weightKv, List.map_cons, List.sum_cons, List.length_cons]
    omega
theorem pairs_read {h : Heap} : ∀ {ws : List (Key × V)} {vs : List (Key × Value)} {ds : List D}, KV ws vs → ds.all intV = true → (∀ G, RL K G ds (ws.map (·.2))) → PyProof.V.PairsRead h pk vs (pyKv (ws.map (·.1)) ds) []
  | [], vs, ds, kv, hd, r => by
    cases kv
    simp only [List.map_nil, pyKv]
    exact .nil
  | (k, v) :: ws, vs, [], kv, hd, r => by
    have := (r (fun _ => none)).len
    simp at this
  | (k, v) :: ws, vs, d :: ds, kv, hd, r => by
    cases kv with
    | cons q t =>
      rename_i kv' vs'
      obtain ⟨k', u⟩ := kv'
      obtain ⟨q1, q2⟩ := q
      have q1' : k = k' := q1
      subst q1'
      simp only [List.all_cons, Bool.and_eq_true] at hd
      obtain ⟨i, rfl, _⟩ := intV_at hd.1
      have ev : v = .int i := by
        have := r (fun _ => none)
        simp only [List.map_cons, RL, R.RL] at this
        obtain ⟨v0, r0, e, h1, _⟩ := this
        cases e
        exact h1
      subst ev
      obtain ⟨t', rfl⟩ := (show ∃ t', u = Value.int i t' from q2)
      have rest := pairs_read (h := h) (ds := ds) t hd.2 fun G => by
        have := r G
        simp only [List.map_cons, RL, R.RL] at this
        obtain ⟨v0, r0, e, _, h2⟩ := this
        cases e
        exact h2
      simp only [List.map_cons, pyKv, pyd]
      exact .cons (Reads.int i t') rest
def rpD (ks : List Key) (ds : List D) : Str := (PyData.dict (pyKv ks ds)).shown
theorem rl_flat {ds : List D} {vs : List V} {G : Hp} (hd : ds.all intV = true) (r : RL K G ds vs) : ∀ G', RL K G' ds vs := by
  intro G'
  induction ds generalizing vs with
  | nil => simpa only [RL, R.RL] using r
  | cons d ds ih =>
    simp only [List.all_cons, Bool.and_eq_true] at hd
    obtain ⟨i, rfl, _⟩ := intV_at hd.1
    simp only [RL, R.RL] at r ⊢
    obtain ⟨v, vr, rfl, h1, h2⟩ := r
    exact ⟨v, vr, rfl, h1, ih hd.2 h2⟩
def rReprD (K : PySem.W.Frag) : List V → Hp → VK → Prop := fun xs H Q => ∃ a ws ds, xs = [V.ref a] ∧ Rd H a (.dK ws) ∧ okDic (ws.map (·.1)) ds = true ∧ (∀ G, RL K G ds (ws.map (·.2))) ∧ Q (.str (rpD (ws.map (·.1)) ds)) H
theorem call_reprD {k : Nat} (cg : Cg X.A k) : CallR X (.builtin "repr") (rReprD X.K) := by
  intro pins s σ H xs us Q I r h
  obtain ⟨a, ws, ds, rfl, hr, ok, rl, q⟩ := h
  obtain ⟨u, rfl, rx⟩ := vals1 r
  cases rx
  obtain ⟨z, hs, vs, kv, dd⟩ := dk_rd I.hok hr
  unfold okDic at ok
  simp only [Bool.and_eq_true, decide_eq_true_eq] at ok
  obtain ⟨⟨⟨o1, o2⟩, o3⟩, o4⟩ := ok
  obtain ⟨c1, c2, c3, c4⟩ := pyKv_ok (ws.map (·.1)) ds o1 o2
  have rd := PyProof.V.reads_dictOf (enc := pk) (fun k key hk => by
    rcases keyIs_shape hk with ⟨i, t, rfl, rfl⟩ | ⟨x, t, rfl, rfl⟩
    · exact Reads.int i t
    · exact Reads.str x t) dd (pairs_read (h := s.heap) kv o2 rl)
  have sl := PyData.shown_le 30 (by decide) (.dict (pyKv (ws.map (·.1)) ds)) (by simp only [PyData.leavesShort]; exact c2)
  have wt : (PyData.dict (pyKv (ws.map (·.1)) ds)).weight ≤ 400000 := by
    simp only [PyData.weight]
    omega
  have dt : (PyData.dict (pyKv (ws.map (·.1)) ds)).depth ≤ 1 := by
    simp only [PyData.depth]
    omega
  refine repr_of_reads' rd (by simp only [PyData.showable]; exact c1) (fun _ m => ?_) cg.gd (by have := cg.room.units; omega) (fun _ _ e => e) (fun h' u tk hk => ?_) (by rw [sizeLine_eq]; omega)
  · have e : sysModules = a := by simpa using m
    rw [e, beq_self_eq_true] at hs
    cases hs
  · exact ⟨.str _, H, I.kept (t' := tk) hk, ⟨u, rfl⟩, q⟩
def cRepr : List D → Option RV
  | [.lst ds] => if okRp (.lst ds) = true then some (.f (.str (rp (.lst ds)))) else none
  | [.tup ds] => if okRp (.tup ds) = true then some (.f (.str (rp (.tup ds)))) else none
  | [.dic ks ds] => if okDic ks ds = true then some (.f (.str (rpD ks ds))) else none
  | _ => none
theorem okRp_len {d : D} (h : okRp d = true) : (pyd d).showable = true ∧ (pyd d).hasDict = false ∧ (pyd d).depth ≤ 60 ∧ (pyd d).shown.length ≤ sizeLine ∧ py d = some (pyd d) := by
  unfold okRp at h
  simp only [Bool.and_eq_true, Bool.or_eq_true, decide_eq_true_eq] at h
  rcases h with h | h
  · obtain ⟨h1, h2, h3, h4, h5, h6⟩ := rok_py d h.1.1
    have := PyData.shown_le 30 (by decide) _ h4
    exact ⟨h2, h3, by omega, by rw [sizeLine_eq]; omega, h1⟩
  · obtain ⟨h1, h2, h3, h4, h5, h6⟩ := ros_py d h.1.1
    have := PyData.shown_fits (B := 13) (by decide) (by decide) h4 (by omega)
    exact ⟨h2, h3, by omega, this, h1⟩
theorem co_repr : CallOk K (fun xs H Q => rRepr K xs H Q ∨ rReprD K xs H Q) cRepr := by
  intro G H xs ds o l hx ho Q hQ
  unfold cRepr at ho
  split at ho
  · rename_i ds
    by_cases hk : okRp (.lst ds) = true
    · rw [if_pos hk] at ho
      cases ho
      obtain ⟨h1, h2, h3, h4, h5⟩ := okRp_len hk
      cases hx with
      | cons r t =>
        cases t
        have dp := dpx_of l r h5
        obtain ⟨p, vs, rfl, _, _⟩ := r.lst l
        exact .inl ⟨p, _, rfl, dp, h1, h2, h3, h4, ok_val (d := .str _) l rfl hQ⟩
    · rw [if_neg hk] at ho
      cases ho
  · rename_i ds
    by_cases hk : okRp (.tup ds) = true
    · rw [if_pos hk] at ho
      cases ho
      obtain ⟨h1, h2, h3, h4, h5⟩ := okRp_len hk
      cases hx with
      | cons r t =>
        cases t
        have dp := dpx_of l r h5
        obtain ⟨p, vs, rfl, _, _⟩ := r.tup l
        exact .inl ⟨p, _, rfl, dp, h1, h2, h3, h4, ok_val (d := .str _) l rfl hQ⟩
    · rw [if_neg hk] at ho
      cases ho
  · rename_i ks ds
    by_cases hk : okDic ks ds = true
    · rw [if_pos hk] at ho
      cases ho
      cases hx with
      | cons r t =>
        cases t
        obtain ⟨p, ws, rfl, h1, rfl, h3⟩ := r.dic l
        refine .inr ⟨p, ws, ds, rfl, h1, hk, rl_flat ?_ h3, ok_val (d := .str _) l rfl hQ⟩
        unfold okDic at hk
        simp only [Bool.and_eq_true] at hk
        exact hk.1.1.2
    · rw [if_neg hk] at ho
      cases ho
  · cases ho
theorem CallR.or {id : Value} {r1 r2 : List V → Hp → VK → Prop} (h1 : CallR X id r1) (h2 : CallR X id r2) : CallR X id (fun xs H Q => r1 xs H Q ∨ r2 xs H Q) := fun pins s σ H xs us Q I r h => h.elim (h1 pins s σ H xs us Q I r) (h2 pins s σ H xs us Q I r)
theorem de_repr {p : Pos} {k : Nat} (cg : Cg X.A k) (hm : X.mg "repr" = none) (ha : DA X W [e] fa) (hg : Gl X "repr" := by rfl)
    (he : starEach [e] X.env = [(false, eval e X.env)] := by rfl) : DE X W (.Call (.Name "repr" p) [e] [] pos) (fCB cRepr fa) :=
  de_cb ((call_repr cg).or (call_reprD cg)) co_repr hm (by decide +kernel) ha hg (by decide) (by decide) he rfl
end
end DL
set_option Elab.async false
set_option linter.all false
set_option maxRecDepth 100000
set_option maxHeartbeats 4000000
/-! DL13: dicts: {}, dict(pairs), len, .items(), .values(). -/
namespace DL
open PySem L2
section
variable {X : Cx} {W : WX'} {K : PySem.W.Frag}
variable {e a b c iter tg elt : Expr} {es ifs : List Expr} {f g h : Sl → Rs RV} {f1 g1 h1 : Sl → Rs NV} {fb gb : Sl → Rs Bool} {pos : Pos} {fa : Sl → Rs (List NV)}
/-- {} -/
theorem de_dic0 : DE X W (.Dict [] [] pos) (fun S => .ok (.od [] []) S) := by
  refine ⟨_, pe_dnewK, fun τ σ S G H s Q hq p hp => ?_⟩
  refine hq _ G _ (Pst.new s (stp_new hp) (le_new s.le hp)) ⟨⟨p, [], rfl, upd_same, s.le.free hp, rfl, RL.nil⟩, fun q e => ?_⟩
  cases e
  exact hp
/-! ### dict(xs) of pairs -/
def keyD : D → Option Key
  | .int i => some (.inl i)
  | .str x => some (.inr x)
  | _ => none
def pairD : D → Option (Key × D)
  | .tup [k, v] => (keyD k).map fun q => (q, v)
  | _ => none
def pairsD : List D → Option (List (Key × D))
  | [] => some []
  | d :: ds => (pairD d).bind fun p => (pairsD ds).map (p :: ·)
def putD (kvs : List (Key × D)) (k : Key) (v : D) : List (Key × D) :=
  if (kvs.any fun kv => decide (kv.1 = k)) = true then kvs.map (fun kv => if kv.1 = k then (kv.1, v) else kv) else kvs ++ [(k, v)]
def mergeD (kvs more : List (Key × D)) : List (Key × D) := more.foldl (fun acc kv => putD acc kv.1 kv.2) kvs
def RP (K : PySem.W.Frag) (G : Hp) : List (Key × D) → List (Key × V) → Prop := Paired fun (a : Key × D) (b : Key × V) => a.1 = b.1 ∧ R K G a.2 b.2
theorem RP.any {G : Hp} {l : List (Key × D)} {m : List (Key × V)} (h : RP K G l m) (k : Key) : (l.any fun kv => decide (kv.1 = k)) = (m.any fun kv => decide (kv.1 = k)) := by
  unfold RP at h
  induction h with
  | nil => rfl
  | cons q _ ih => simp only [List.any_cons, q.1, ih]
theorem RP.map {G : Hp} {l : List (Key × D)} {m : List (Key × V)} {k : Key} {d : D} {v : V} (h : RP K G l m) (r : R K G d v) : RP K G (l.map fun kv => if kv.1 = k then (kv.1, d) else kv) (m.map fun kv => if kv.1 = k then (kv.1, v) else kv) := by
  unfold RP at h ⊢
  induction h with
  | nil => exact .nil
  | @cons x y _ _ q _ ih =>
    simp only [List.map_cons]
    refine .cons ?_ ih
    by_cases e : x.1 = k
    · rw [if_pos e, if_pos (q.1 ▸ e)]
      exact ⟨q.1, r⟩
    · rw [if_neg e, if_neg (q.1 ▸ e)]
      exact q
theorem RP.put {G : Hp} {l : List (Key × D)} {m : List (Key × V)} {k : Key} {d : D} {v : V} (h : RP K G l m) (r : R K G d v) : RP K G (putD l k d) (putK m k v) := by
  unfold putD putK
  rw [RP.any h k]
  split
  · exact RP.map h r
  · unfold RP at h ⊢
    exact h.snoc ⟨rfl, r⟩
theorem RP.merge {G : Hp} : ∀ {more : List (Key × D)} {rs : List (Key × V)} {l : List (Key × D)} {m : List (Key × V)}, RP K G more rs → RP K G l m → RP K G (mergeD l more) (mergeK m rs)
  | [], rs, l, m, h, q => by
    cases h
    exact q
  | p :: more, rs, l, m, h, q => by
    cases h with
    | @cons _ b _ rs' x t =>
      show RP K G (mergeD (putD l p.1 p.2) more) (mergeK (putK m b.1 b.2) rs')
      rw [x.1]
      exact RP.merge t (RP.put q x.2)
theorem RP.rl {G : Hp} {l : List (Key × D)} {m : List (Key × V)} (h : RP K G l m) : m.map (·.1) = l.map (·.1) ∧ RL K G (l.map (·.2)) (m.map (·.2)) := by
  unfold RP at h
  induction h with
  | nil => exact ⟨rfl, RL.nil⟩
  | cons q _ ih => exact ⟨by simp only [List.map_cons, q.1, ih.1], RL.cons q.2 ih.2⟩
theorem keyD_ok {G : Hp} {k : D} {q : Key} {v : V} (e : keyD k = some q) (r : R K G k v) : v = kV q := by
  cases k <;> try (cases e; done)
  all_goals (cases e; exact r)
theorem pairs_ok {G H : Hp} (l : Le G H) : ∀ {ds : List D} {vs : List V} {ps : List (Key × D)}, pairsD ds = some ps → RL K G ds vs → ∃ (as : List Addr) (kvs : List (Key × V)), vs = as.map V.ref ∧ Paired (fun p kv => SqT K H p [kV kv.1, kv.2]) as kvs ∧ RP K G ps kvs
  | [], vs, ps, e, r => by
    simp only [pairsD] at e
    cases e
    simp only [RL, R.RL] at r
    subst r
    exact ⟨[], [], rfl, .nil, .nil⟩
  | d :: ds, vs, ps, e, r => by
    simp only [pairsD] at e
    cases e1 : pairD d with
    | none => rw [e1] at e; cases e
    | some p =>
      rw [e1] at e
      cases e2 : pairsD ds with
      | none => rw [e2] at e; cases e
      | some ps' =>
        rw [e2] at e
        cases e
        simp only [RL, R.RL] at r
        obtain ⟨v, vr, rfl, r1, r2⟩ := r
        obtain ⟨as, kvs, rfl, h2, h3⟩ := pairs_ok l e2 r2
        unfold pairD at e1
        split at e1
        · rename_i k dv
          cases e3 : keyD k with
          | none => rw [e3] at e1; cases e1
          | some q =>
            rw [e3] at e1
            cases e1
            simp only [R, R.RL] at r1
            obtain ⟨ad, ws, rfl, t1, v1, w1, rfl, t2, v2, w2, rfl, t3, rfl⟩ := r1
            rw [keyD_ok e3 t2] at t1
            exact ⟨ad :: as, (q, v2) :: kvs, rfl, .cons (l.sqt t1) h2, .cons ⟨rfl, t3⟩ h3⟩
        · cases e1
def cDict : List D → Option RV
  | [.lst ps] => (match pairsD ps with
    | some kvs => some (.od ((mergeD [] kvs).map (·.1)) ((mergeD [] kvs).map (·.2)))
    | none => none)
  | _ => none
theorem co_dict : CallOk K (fun xs H Q => ∃ (a : Addr) (ps : List Addr) (kvs : List (Key × V)), xs = [.ref a] ∧ SqL K H a (ps.map V.ref) ∧ Paired (fun p kv => SqT K H p [kV kv.1, kv.2]) ps kvs ∧
    ∀ p, H p = none → Q (.ref p) (upd H p (.dK (mergeK [] kvs)))) cDict := by
  intro G H xs ds o l hx ho Q hQ
  unfold cDict at ho
  split at ho
  · rename_i ps
    cases e : pairsD ps with
    | none => simp only [e] at ho; cases ho
    | some kvs =>
      simp only [e] at ho
      cases ho
      cases hx with
      | cons r t =>
        cases t
        obtain ⟨p, vs, rfl, h1, h2⟩ := r.lst l
        obtain ⟨as, kws, rfl, h3, h4⟩ := pairs_ok l e h2
        refine ⟨p, as, kws, rfl, SqL.of h1, h3, fun q hq => ?_⟩
        obtain ⟨k1, k2⟩ := RP.rl (RP.merge (l := []) (m := []) h4 .nil)
        refine hQ _ G _ (stp_new hq) (le_new l hq) (fun σ => ⟨q, _, rfl, upd_same, l.free hq, k1, k2⟩) fun q' e' => ?_
        cases e'
        exact hq
  · cases ho
theorem de_dict {p : Pos} (hc : X.calm = true) (hm : X.mg "dict" = none) (ha : DA X W [e] fa) (hg : Gl X "dict" := by rfl) (he : starEach [e] X.env = [(false, eval e X.env)] := by rfl) : DE X W (.Call (.Name "dict" p) [e] [] pos) (fCB cDict fa) :=
  de_ct (call_dictP hc) co_dict hm (by decide +kernel) ha hg (by decide) (by decide) he rfl
/-! ### len -/
def cLenA : List D → Option RV
  | [.dic ks ds] => if ks.length = ds.length then some (.f (.int ds.length)) else none
  | xs => cLen xs
theorem call_lenR : CallR X (.builtin "len") (fun xs H Q => ∃ a kvs, xs = [V.ref a] ∧ Rd H a (.dK kvs) ∧ Q (.int kvs.length) H) := by
  intro pins s σ H xs us Q I r h
  obtain ⟨a, kvs, rfl, ha, q⟩ := h
  obtain ⟨u, rfl, ru⟩ := vals1 r
  cases ru
  exact d_len I ha fun t s' I' => ⟨.int kvs.length, H, I', ⟨t, rfl⟩, q⟩
theorem co_lenA : CallOk K (fun xs H Q => (∃ x n, xs = [x] ∧ LenV K x H n ∧ Q (.int n) H) ∨ ∃ a kvs, xs = [V.ref a] ∧ Rd H a (.dK kvs) ∧ Q (.int kvs.length) H) cLenA := by
  intro G H xs ds o l hx ho Q hQ
  unfold cLenA at ho
  split at ho
  · rename_i ks es
    by_cases h : ks.length = es.length
    · rw [if_pos h] at ho
      cases ho
      cases hx with
      | cons r t =>
        cases t
        obtain ⟨p, ws, rfl, h1, rfl, h3⟩ := r.dic l
        refine .inr ⟨p, ws, rfl, h1, ?_⟩
        have e : ws.length = es.length := by simpa using h
        rw [e]
        exact ok_val (d := .int _) l rfl hQ
    · rw [if_neg h] at ho
      cases ho
  · exact .inl (co_len G H xs _ o l hx ho Q hQ)
theorem de_lenA {p : Pos} (hm : X.mg "len" = none) (ha : DA X W [e] fa) (hg : Gl X "len" := by rfl) (he : starEach [e] X.env = [(false, eval e X.env)] := by rfl) : DE X W (.Call (.Name "len" p) [e] [] pos) (fCB cLenA fa) :=
  de_cb (call_len.or call_lenR) co_lenA hm PySem.boot_len ha hg (by decide) (by decide) he rfl
/-! ### a dict is locked and walked -/
def tLk (t : TE) : TE := fun σ H Q => t σ H fun x H1 => Q x H1 ∨ ∃ d u, H1 d = some u ∧ Mut (some u) ∧ ∀ od, Q x (upd H1 d (.frz od u))
theorem pe_lk {t : TE} (h : PE X e t) : PE X e (tLk t) := by
  refine ⟨fun pins s σ H Q I hq => thn (h.run pins s σ H _ I hq) fun v s1 ⟨x, H1, I1, r, q⟩ => ?_⟩
  rcases q with q | ⟨d, u, hd, mu, q⟩
  · exact ⟨x, H1, I1, r, q⟩
  · obtain ⟨od, I2⟩ := I1.lock hd mu
    exact ⟨x, _, I2, r, q od⟩
theorem kp_lock {G H : Hp} {p : Addr} {ws : List (Key × V)} {od : Obj} (l : Le G H) (hg : G p = some (.dK ws)) (hp : H p = some (.dK ws)) : Stp (fun _ => False) G H G (upd H p (.frz od (.dK ws))) ∧ Le G (upd H p (.frz od (.dK ws))) := by
  refine ⟨⟨Ext.refl _, fun a ha _ => ⟨?_, rfl⟩, fun a ha => ?_⟩, fun a o e => ?_⟩
  · by_cases h : a = p
    · subst h
      exact .inr ⟨ws, od, hg, hp, upd_same⟩
    · exact .inl (upd_ne h)
  · by_cases h : a = p
    · subst h
      rw [upd_same]
      simp
    · rw [upd_ne h]
      exact ha
  · by_cases h : a = p
    · subst h
      rw [hg] at e
      cases e
      exact .inr ⟨ws, od, rfl, upd_same⟩
    · rw [upd_ne h]
      exact l a o e
/-- the frozen dict at hand, locked -/
theorem den_lkD {te : TE} {I : TI} {ks0 : List Key → List D → List D} {J : Addr → Obj → List (Key × V) → It} (q : DenN K W te f1) (hI : ∀ σ H Rr, I σ H Rr = tLk te σ H fun x H1 => ∃ d o kvs, x = .ref d ∧ H1 d = some (.frz o (.dK kvs)) ∧ Rr (J d o kvs) H1)
    (ok : ∀ G d o ws ds, G d = some (.dK ws) → RL K G ds (ws.map (·.2)) → ItOk K G (J d o ws) (ks0 (ws.map (·.1)) ds) [(d, .frz o (.dK ws))]) :
    Dn okI K W I (fun S => (f1 S).bind fun n S1 => match n with | .f (.dic ks ds) => .ok (ks0 ks ds) S1 | _ => .no) := by
  intro τ σ S G H s Q hq
  rw [hI]
  refine Gd.cases (Q1 := fun x H1 => (∃ d o kvs, x = .ref d ∧ H1 d = some (.frz o (.dK kvs)) ∧ Q (J d o kvs) H1) ∨ ∃ d u, H1 d = some u ∧ Mut (some u) ∧ ∀ od, ∃ d' o kvs, x = .ref d' ∧ upd H1 d (.frz od u) d' = some (.frz o (.dK kvs)) ∧ Q (J d' o kvs) (upd H1 d (.frz od u))) bkI q s hq fun x n S1 G1 H1 s1 P o r => ?_
  cases n with
  | bo i => exact r.elim
  | f d =>
    cases d <;> try exact r.elim
    rename_i ks ds
    have o' : R K G1 (.dic ks ds) x := o
    simp only [R] at o'
    obtain ⟨a, ws, rfl, h1, rfl, h3⟩ := o'
    rcases s1.le a _ h1 with z | ⟨ws', ob, e, z⟩
    · refine .inr ⟨a, _, z, trivial, fun od => ⟨a, od, ws, rfl, upd_same, ?_⟩⟩
      obtain ⟨st, l⟩ := kp_lock (od := od) s1.le h1 z
      exact r _ G1 _ (Pst.new s1 st l) ⟨[(a, .frz od (.dK ws))], fun q hq => by
        cases List.mem_singleton.mp hq
        exact upd_same, ok G1 a od ws ds h1 h3⟩
    · cases e
      refine .inl ⟨a, ob, ws, rfl, z, r _ G1 H1 (Pst.refl s1) ⟨[(a, .frz ob (.dK ws))], fun q hq => by
        cases List.mem_singleton.mp hq
        exact z, ok G1 a ob ws ds h1 h3⟩⟩
def itemsD : List Key → List D → List D
  | k :: ks, d :: ds => .tup [kD k, d] :: itemsD ks ds
  | _, _ => []
theorem itemsD_at : ∀ {ws : List (Key × V)} {ds : List D} {i : Nat} {d : D} {G : Hp}, RL K G ds (ws.map (·.2)) → (itemsD (ws.map (·.1)) ds)[i]? = some d → ∃ k v e, ws[i]? = some (k, v) ∧ R K G e v ∧ d = .tup [kD k, e]
  | [], ds, i, d, G, r, h => by simp [itemsD] at h
  | w :: ws, [], i, d, G, r, h => by simp [itemsD] at h
  | w :: ws, e :: ds, 0, d, G, r, h => by
    simp only [List.map_cons, RL, R.RL] at r
    obtain ⟨v, vr, q, r1, _⟩ := r
    cases q
    simp [itemsD] at h
    exact ⟨w.1, w.2, e, rfl, r1, h.symm⟩
  | w :: ws, e :: ds, i + 1, d, G, r, h => by
    simp only [List.map_cons, RL, R.RL] at r
    obtain ⟨v, vr, q, _, r2⟩ := r
    cases q
    simp only [List.map_cons, itemsD, List.getElem?_cons_succ] at h
    obtain ⟨k, v, e', h1, h2, h3⟩ := itemsD_at r2 h
    exact ⟨k, v, e', by simpa using h1, h2, h3⟩
theorem itemsD_len : ∀ {ks : List Key} {ds : List D}, ks.length = ds.length → (itemsD ks ds).length = ds.length
  | [], [], _ => rfl
  | k :: ks, d :: ds, h => by simp only [itemsD, List.length_cons]; rw [itemsD_len (by simpa using h)]
theorem it_items {G : Hp} {d : Addr} {o : Obj} {ws : List (Key × V)} {ds : List D} (h : G d = some (.dK ws)) (r : RL K G ds (ws.map (·.2))) : ItOk K G (Iti d o ws) (itemsD (ws.map (·.1)) ds) [(d, .frz o (.dK ws))] := by
  have hl : ws.length = ds.length := by simpa using r.len
  refine ⟨fun q hq => ?_, fun G1 H1 e l hp i x hx => ?_, fun G1 H1 e l hp => ?_⟩
  · cases List.mem_singleton.mp hq
    exact ⟨by simp only; rw [h]; simp, fun _ z => nomatch z⟩
  · have hd := hp _ (List.mem_singleton.mpr rfl)
    obtain ⟨k, v, e', h1, h2, rfl⟩ := itemsD_at r hx
    refine ⟨⟨hd, (List.getElem?_eq_some_iff.mp h1).1⟩, fun y H' ⟨T, k', v', g1, g2, g3, g4⟩ => ?_⟩
    rw [h1] at g1
    cases g1
    subst g2 g4
    refine ⟨_, stp_newF l g3, le_newF l g3, r_newT (l.free g3) (RL.cons (d := kD k) ?_ (RL.cons (R.mono e _ _ h2) RL.nil))⟩
    cases k <;> rfl
  · have hd := hp _ (List.mem_singleton.mpr rfl)
    refine ⟨hd, ?_⟩
    rw [itemsD_len (by simpa using hl), hl]
    exact Nat.le_refl _
def itemsOf (n : NV) (S : Sl) : Rs (List D) := match n with
  | .f (.dic ks ds) => .ok (itemsD ks ds) S
  | _ => .no
theorem di_items {apos cpos : Pos} {elts : List Expr} {kk : Nat} {tpos : Pos} (he : DN X W e f1) (hbase : attributeBase e "items" X.env (eval e X.env) = eval e X.env := by rfl) (hline : (apos.endLine == cpos.line) = true := by rfl) :
    DI X W (.Tuple elts kk tpos) (.Call (.Attribute e "items" apos) [] [] cpos) (fun S => (f1 S).bind itemsOf) := by
  obtain ⟨t, p, q⟩ := he
  refine ⟨_, pi_items (pe_lk p) hbase hline, ?_⟩
  have := den_lkD (I := iItems (tLk t)) (J := Iti) (ks0 := itemsD) q (fun σ H Rr => rfl) fun G d o ws ds h r => it_items h r
  exact this
end
end DL
set_option Elab.async false
set_option linter.all false
set_option maxRecDepth 100000
set_option maxHeartbeats 4000000
/-! DL14: enumerate of a tuple, any row walked, keywords, += in place. -/
namespace DL
section
open PySem PySem.Spec PyProof.Rows
theorem meets_enumT (l : Addr) (items : Array Value) (n : Nat) (dct : Option Addr) (sl : Array (Option Value)) :
    Meets (Builtin.«enumerate.__new__» ⟨[.type "enumerate", .ref l], []⟩) (fun _ R s => s.heap.get? l = some { cls := .type "tuple", dict := dct, data := .seq items n, slots := sl } ∧
      R (.ok (.ret (.ref (s.heap.push { cls := .type "tuple_iterator", data := .fields #[.ref l, .int 0 0] }).objs.size)))
        { s with heap := (s.heap.push { cls := .type "tuple_iterator", data := .fields #[.ref l, .int 0 0] }).push { cls := .type "enumerate", data := .fields #[.none, .bool false, .ref s.heap.objs.size, rawInt 0, .none, .none] } }) :=
  .of_wp fun prog w A R s h => by
    obtain ⟨hp, g, d, tk, os⟩ := s; obtain ⟨hl, h⟩ := h
    have hsub := sub_enumerate
    have hL : IsTup (Shared.heap ⟨hp, g, d, tk, os⟩) l items := ⟨_, hl, rfl, n, rfl⟩
    have q1 : ∀ {A' : Around} {E : Value → Shared → Prop} {Q : Value → Shared → Prop}, Q (.ref hp.objs.size) ⟨hp.push { cls := .type "tuple_iterator", data := .fields #[.ref l, .int 0 0] }, g, d, tk, os⟩ → wpAny (model prog w) A' (pyIter (.ref l)) Q E ⟨hp, g, d, tk, os⟩ :=
      fun q => iter_tuple hL q
    wp_walk using wpAny_loadPart' hl
    refine wpAny_stack_any fun st => wpAny_pure ?_
    split
    · rename_i c _ _ _ _ _
      cases (c == Value.type "enumerate")
      · wp_walk using wpAny_loadPart' hl, q1
        exact ⟨_, rfl, h⟩
      · wp_walk using wpAny_loadPart' hl, q1
        exact ⟨_, rfl, h⟩
    · wp_walk using wpAny_loadPart' hl, q1
      exact ⟨_, rfl, h⟩
theorem call_enumT {prog : Program} {w : World} {A : Around} {E : Value → Shared → Prop} {s : Shared} {l : Addr} {items : Array Value} {Q : Value → Shared → Prop} (hL : IsTup s.heap l items)
    (h : ∀ h', IsEnum h' (s.heap.objs.size + 1) s.heap.objs.size 0 .none → h'.IsTupleIter s.heap.objs.size l 0 → h'.objs.size = s.heap.objs.size + 2 →
      (∀ b o, s.heap.get? b = some o → h'.get? b = some o) → Q (.ref (s.heap.objs.size + 1)) { s with heap := h' }) :
    wpAny (model prog w) A (call (.type "enumerate") [.ref l]) Q E s := by
  obtain ⟨⟨c, dct, dt, sl⟩, hl, hc, n, hd⟩ := hL
  replace hc : c = .type "tuple" := hc
  replace hd : dt = .seq items n := hd
  subst hc hd
  refine callType_new F.called_enumerate (by decide) (F.typeCall_enumerate_1 _) (F.newCall_enumerate_1 _) (fun obj => F.args_object_init_2 obj _) F.entry_enumerate_new (meets_enumT l items n dct sl) ⟨hl, ?_⟩
  have hz : (s.heap.push { cls := .type "tuple_iterator", data := .fields #[.ref l, .int 0 0] }).objs.size = s.heap.objs.size + 1 := Heap.size_push ..
  show _ ∧ _
  rw [hz]
  have he : IsEnum ((s.heap.push { cls := .type "tuple_iterator", data := .fields #[.ref l, .int 0 0] }).push
      { cls := .type "enumerate", data := .fields #[.none, .bool false, .ref s.heap.objs.size, rawInt 0, .none, .none] }) (s.heap.objs.size + 1) s.heap.objs.size 0 .none := by
    have := Heap.get?_push_size (s.heap.push { cls := .type "tuple_iterator", data := .fields #[.ref l, .int 0 0] })
      (o := { cls := .type "enumerate", data := .fields #[.none, .bool false, .ref s.heap.objs.size, rawInt 0, .none, .none] }) rfl
    rw [hz] at this
    exact this
  exact ⟨⟨_, he, rfl⟩, h _ he ⟨_, Heap.get?_push_of_some _ (Heap.get?_push_size _ rfl), rfl, rfl⟩ (by rw [Heap.size_push, hz]) fun b o x => Heap.get?_push_of_some _ (Heap.get?_push_of_some _ x)⟩
end
open PySem L2
open PyProof.Rows (envOfC)
/-- the tuple at a as it stands, each item in a new pair -/
def Itet (K : PySem.W.Frag) (a : Addr) : It :=
  ⟨fun i H => ∃ (xs : List V) (x : V), SqT K H a xs ∧ xs[i]? = some x, fun i H v H' => ∃ T x, v = .ref T ∧ H T = none ∧ H' = upd H T (.tup [.int (i : Nat), x]) ∧ ∀ xs, SqT K H a xs → xs[i]? = some x, fun i H => ∃ xs : List V, SqT K H a xs ∧ xs.length ≤ i⟩
section
open PySem.Spec PyProof.Rows
theorem turn_enumT {P : Program} {w : World} {K : PySem.W.Frag} {elts : List Expr} {kk : Nat} {tpos : Pos} (a e it : Addr) :
    Turn P w K (.Tuple elts kk tpos) (Itet K a) [e, it] e (fun i h => (∃ old, IsEnum h e it ((i : Nat) : Int) old) ∧ h.IsTupleIter it a i ∧ e ≠ it) where
  mem := by simp
  obj := fun i h st b hb => by
    obtain ⟨⟨old, he⟩, ⟨o, ho, hc, hd⟩, _⟩ := st
    have e' : b = e ∨ b = it := by simpa using hb
    rcases e' with z | z
    · rw [z]; exact ⟨_, he, fun v q => nomatch q⟩
    · rw [z]; exact ⟨o, ho, fun v q => by rw [hd] at q; cases q⟩
  keep := fun i h h' st k => let ⟨⟨old, he⟩, hi, hne⟩ := st; ⟨⟨old, k e (by simp) _ he⟩, hi.at fun o q => k it (by simp) o q, hne⟩
  item := by
    intro X hP hw hK hc i pins s σ H E I hf st hg
    subst hP hw hK
    obtain ⟨⟨old, he⟩, hit, hne⟩ := st
    obtain ⟨xs, x, hq, hx⟩ := hg
    obtain ⟨its, rv, p, hz⟩ := I.tuple hq
    obtain ⟨u, hu, ru⟩ := rv.get hx
    have hel : e < s.heap.objs.size := Heap.lt_size he
    have hil : it < s.heap.objs.size := by obtain ⟨_, q, _⟩ := hit; exact Heap.lt_size q
    obtain ⟨oa, hoa, hca, _⟩ := id p
    have nai : a ≠ it := fun z => by
      obtain ⟨oi, hoi, hci, _⟩ := id hit
      rw [z, hoi] at hoa
      cases hoa
      rw [hci] at hca
      exact absurd hca (by decide)
    have nae : e ≠ a := fun z => by
      have he' : s.heap.get? e = some _ := he
      rw [z, hoa] at he'
      cases he'
      exact absurd (show Value.type "enumerate" = Value.type "tuple" from hca) (by decide)
    have D := Draws.tuple (prog := X.prog) (w := X.w) (A := X.A.in1) (I.ok.hd hc) it a nai its.toArray
    refine wpAny_pyNext_enum_itemD D he ⟨hit, p⟩ (by have := (List.getElem?_eq_some_iff.mp hu).1; simpa using this) hne (by simp [hne, nae]) fun y h' tk hy ho hs' hT hsz hk => ?_
    have ey : y = u := by
      have hy' : its[i]? = some y := by simpa using hy
      rw [hu] at hy'
      exact (Option.some.inj hy').symm
    subst ey
    refine ⟨_, rfl, wpAny_letOwnedTupleGo_enum (s := { s with heap := h', toks := tk + 1 }) ho fun h'' he' sb => ?_⟩
    have hT2 : h''.get? s.heap.objs.size = some { cls := .type "tuple", data := .seq #[.int i tk, y] } := (sb.2 _ (Nat.ne_of_gt hel)).trans hT
    have new : ObjOk X.prog X.w (upd H s.heap.objs.size (.tup [.int (i : Nat), x])) h'' s.heap.objs.size (.tup [.int (i : Nat), x]) :=
      ⟨by show 2 ≤ sizeLine; decide, [.int i tk, y], .cons ⟨_, rfl⟩ (.cons ru .nil), ⟨_, hT2, rfl, _, rfl⟩⟩
    have I1 : Inv X pins σ (upd H s.heap.objs.size (.tup [.int (i : Nat), x])) { s with heap := h'', toks := tk + 1 } :=
      I.turnedNew (ch := [e, it]) (fun b ob hb q => (sb.2 b (fun z => hb (by simp [z]))).trans (hk b ob (fun z => hb (by simp [z])) (fun z => hb (by simp [z])) q)) hf (Nat.le_refl _) new
    refine ⟨.ref s.heap.objs.size, _, I1, rfl, ⟨_, x, rfl, I.hok.fresh (Nat.le_refl _), rfl, fun ys hy => by rw [I.tuple_inj hy hq]; exact hx⟩, ⟨⟨y, ?_⟩, hs'.1.at fun o q => (sb.2 it (Ne.symm hne)).trans q, hne⟩, fun b hb => ?_⟩
    · have e1 : ((i + 1 : Nat) : Int) = (i : Int) + 1 := by omega
      rw [e1]
      exact he'
    · have hb' : b < s.heap.objs.size := by
        have e' : b = e ∨ b = it := by simpa using hb
        rcases e' with z | z
        · rw [z]; exact hel
        · rw [z]; exact hil
      rw [upd_ne (Nat.ne_of_lt hb')]
      exact (hf b hb).1
  done := by
    intro X hP hw hK hc i pins s σ H E I hf st hg
    subst hP hw hK
    obtain ⟨⟨old, he⟩, hit, hne⟩ := st
    obtain ⟨xs, hq, hx⟩ := hg
    obtain ⟨its, rv, p, hz⟩ := I.tuple hq
    obtain ⟨f0, f1, f2, f3, f4, f5⟩ := hf it (by simp)
    have hl := rv.length
    obtain ⟨oa, hoa, hca, _⟩ := id p
    have nai : a ≠ it := fun z => by
      obtain ⟨oi, hoi, hci, _⟩ := id hit
      rw [z, hoi] at hoa
      cases hoa
      rw [hci] at hca
      exact absurd hca (by decide)
    unfold pyNext
    have hT : s.TypeIs (.ref e) "enumerate" := ⟨_, he, rfl⟩
    refine wpAny_bind (wpAny_attempt (wpAny_callSpecial?_slot (name := Str.ofString "__next__") hT F.slot_enumerate_next (wpAny_call_entry F.slot_enumerate_next hT F.entry_enumerate_next ?_ (F.args_enumerate_next_1 _))))
    show wpAny _ _ (field (.ref e) 2 >>= _) _ _ _
    refine wpAny_bind (wpAny_field he rfl (x := .ref it) rfl ?_)
    refine wpAny_bind (wpAny_nextOf_tuple_end (I.ok.hd hc) hit p (by simp; omega) fun h' x he' hx' => ?_)
    obtain ⟨o, ho, hc'⟩ := hx'
    refine wpAny_bind (wpAny_isInstance (T := "StopIteration") (b := true) ⟨o, ho, hc'⟩ isSubtype_stop ?_)
    exact wpAny_pure ⟨rfl, I.turned (t' := s.toks) (fun b o hb q => he' b o hb q) f0 f1 f3 f4 f5⟩
  self := fun A i s Q E st h => let ⟨⟨_, he⟩, _⟩ := st; wpAny_pyIter_enum he h
end
def iEnumA (K : PySem.W.Frag) (ta : TA) : TI := fun σ H R => ta σ H fun vs H1 => ∃ a xs, vs = [.ref a] ∧ ((SqL K H1 a xs ∧ R (Ite K a) H1) ∨ (SqT K H1 a xs ∧ R (Itet K a) H1))
section
open PySem.Spec PyProof.Rows
theorem pi_enumA {X : Cx} {e : Expr} {ta : TA} {p pos tpos : Pos} {elts : List Expr} {kk : Nat} (hg : Gl X "enumerate") (hm : X.mg "enumerate" = none) (ha : PA X [e] ta) (hs : starEach [e] X.env = [(false, eval e X.env)] := by rfl) :
    PI X (.Tuple elts kk tpos) (.Call (.Name "enumerate" p) [e] [] pos) (iEnumA X.K ta) := by
  refine ⟨fun pins s σ H R I h => ?_⟩
  refine Call_ (ld_blt I hg hm boot_enumerate (PyProof.Rows.callWith_type1 (thn (ha.run pos pins s σ H _ I h) fun us s1 ⟨vs, H1, I1, r1, q1⟩ => ?_) hs rfl))
  obtain ⟨a, xs, ex, q⟩ := q1
  subst ex
  cases r1 with
  | cons r rr =>
    cases rr
    cases r
    have fp : ∀ b ∈ [s1.heap.objs.size + 1, s1.heap.objs.size], FpOk X pins H1 b := fun b hb => by
      have e' : b = s1.heap.objs.size + 1 ∨ b = s1.heap.objs.size := by simpa using hb
      have hle : s1.heap.objs.size ≤ b := by
        rcases e' with z | z
        · rw [z]; exact Nat.le_add_right _ _
        · rw [z]; exact Nat.le_refl _
      exact I1.fpOk hle (I1.hok.fresh hle)
    rcases q with ⟨hq, q⟩ | ⟨hq, q⟩
    · obtain ⟨its, rv, p', hz⟩ := I1.list hq
      refine call_enumerate_list p'.isList fun h' he hit hsz hk => wpAny_pyIter_enum he ?_
      have I2 : Inv X pins σ H1 { s1 with heap := h' } := I1.kept (t' := s1.toks) hk
      exact ⟨s1.heap.objs.size + 1, [s1.heap.objs.size + 1, s1.heap.objs.size], _, _, H1, rfl, I2, turn_enum a (s1.heap.objs.size + 1) s1.heap.objs.size, ⟨⟨.none, he⟩, hit, Nat.succ_ne_self _⟩, fp, q⟩
    · obtain ⟨its, rv, p', hz⟩ := I1.tuple hq
      refine call_enumT p' fun h' he hit hsz hk => wpAny_pyIter_enum he ?_
      have I2 : Inv X pins σ H1 { s1 with heap := h' } := I1.kept (t' := s1.toks) hk
      exact ⟨s1.heap.objs.size + 1, [s1.heap.objs.size + 1, s1.heap.objs.size], _, _, H1, rfl, I2, turn_enumT a (s1.heap.objs.size + 1) s1.heap.objs.size, ⟨⟨.none, he⟩, hit, Nat.succ_ne_self _⟩, fp, q⟩
end
section
variable {X : Cx} {W : WX'} {K : PySem.W.Frag}
variable {e a b c iter tg elt : Expr} {es ifs : List Expr} {f g h : Sl → Rs RV} {f1 g1 h1 : Sl → Rs NV} {fb gb : Sl → Rs Bool} {pos : Pos} {fa : Sl → Rs (List NV)}
theorem it_enumT {G : Hp} {a : Addr} {vs : List V} {ds : List D} (h : SqT K G a vs) (r : RL K G ds vs) : ItOk K G (Itet K a) (numbered 0 ds) [] := by
  have here : ∀ G1 H1, Ext G G1 → Le G1 H1 → SqT K H1 a vs := fun G1 H1 e l => l.sqt (ext_t e h)
  refine ⟨fun _ z => (nomatch z), fun G1 H1 e l _ i d hd => ?_, fun G1 H1 e l _ => ⟨vs, here G1 H1 e l, by rw [r.len, numbered_len]; exact Nat.le_refl _⟩⟩
  obtain ⟨d', hd', rfl⟩ := numbered_at hd
  obtain ⟨v, h1, h2⟩ := r.get hd'
  refine ⟨⟨vs, v, here G1 H1 e l, h1⟩, fun x H' ⟨T, y, e1, e2, e3, e4⟩ => ?_⟩
  have e5 := e4 vs (here G1 H1 e l)
  rw [h1] at e5
  cases e5
  subst e1 e3
  rw [Nat.zero_add]
  exact ⟨_, stp_newF l e2, le_newF l e2, r_newT (l.free e2) (RL.cons (d := .int (i : Nat)) rfl (RL.cons (R.mono e _ _ h2) RL.nil))⟩
def numOfA (ns : List NV) (S : Sl) : Rs (List D) := match ns with
  | [.f (.lst ds)] => .ok (numbered 0 ds) S
  | [.f (.tup ds)] => .ok (numbered 0 ds) S
  | _ => .no
theorem di_enumA {p tpos : Pos} {elts : List Expr} {kk : Nat} (hm : X.mg "enumerate" = none) (ha : DA X W [a] fa) (hg : Gl X "enumerate" := by rfl) (hs : starEach [a] X.env = [(false, eval a X.env)] := by rfl) :
    DI X W (.Tuple elts kk tpos) (.Call (.Name "enumerate" p) [a] [] pos) (fun S => (fa S).bind numOfA) := by
  obtain ⟨t, p1, q, _⟩ := ha
  refine ⟨_, pi_enumA hg hm p1 hs, fun τ σ S G H s Q hq => Gd.cases (Q1 := fun vs H1 => ∃ a xs, vs = [V.ref a] ∧ ((SqL X.K H1 a xs ∧ Q (Ite X.K a) H1) ∨ (SqT X.K H1 a xs ∧ Q (Itet X.K a) H1))) bkI q s hq fun vs ns S1 G1 H1 s1 P o r => ?_⟩
  unfold numOfA at r
  split at r
  · rename_i ds
    cases o with
    | cons a t =>
      cases t
      have a' : R X.K G1 (.lst ds) _ := a
      simp only [R] at a'
      obtain ⟨ad, vs', rfl, h1, h2⟩ := a'
      exact ⟨ad, vs', rfl, .inl ⟨SqL.of (s1.le.lst h1), r _ G1 H1 (Pst.refl s1) ⟨[], (fun _ z => nomatch z), it_enum h1 h2⟩⟩⟩
  · rename_i ds
    cases o with
    | cons a t =>
      cases t
      have a' : R X.K G1 (.tup ds) _ := a
      simp only [R] at a'
      obtain ⟨ad, vs', rfl, h1, h2⟩ := a'
      exact ⟨ad, vs', rfl, .inr ⟨s1.le.sqt h1, r _ G1 H1 (Pst.refl s1) ⟨[], (fun _ z => nomatch z), it_enumT h1 h2⟩⟩⟩
  · exact r.elim
/-- for .. in a list or a tuple -/
def iAny (K : PySem.W.Frag) (tl : TE) : TI := fun σ H R => tl σ H fun x H1 => ∃ a, x = .ref a ∧ (((∃ xs, SqL K H1 a xs) ∧ R (Itl K a) H1) ∨ ((∃ xs, SqT K H1 a xs) ∧ R (Itt K a) H1))
theorem pi_any {l : Expr} {tl : TE} (hl : PE X l tl) : PI X tg l (iAny X.K tl) := by
  -- both walks start at the value of l, which is reached once
  refine ⟨fun pins s σ H R I h => thn (hl.run pins s σ H _ I h) fun v s1 ⟨x, H1, I1, r1, q1⟩ => ?_⟩
  obtain ⟨a, e, q⟩ := q1
  subst e
  cases r1
  rcases q with ⟨⟨xs, hq⟩, q⟩ | ⟨⟨xs, hq⟩, q⟩
  · obtain ⟨its, rv, p, hz⟩ := I1.list hq
    exact wpAny_pyIter_list p.isList (pi_one (tk := s1.toks) I1 _ (turn_list _ _) ⟨_, Heap.get?_push_size _ rfl, rfl, rfl⟩ q)
  · obtain ⟨its, rv, p, hz⟩ := I1.tuple hq
    exact PyProof.Rows.iter_tuple p (pi_one (tk := s1.toks) I1 _ (turn_tuple _ _) ⟨_, Heap.get?_push_size _ rfl, rfl, rfl⟩ q)
def anyOf (n : NV) (S : Sl) : Rs (List D) := match n with
  | .f (.lst ds) => .ok ds S
  | .f (.tup ds) => .ok ds S
  | _ => .no
theorem di_seq (h : DN X W iter f1) : DI X W tg iter (fun S => (f1 S).bind anyOf) := by
  obtain ⟨t, p, q⟩ := h
  refine ⟨_, pi_any p, fun τ σ S G H s Q hq => Gd.cases (Q1 := fun x H1 => ∃ a, x = V.ref a ∧ (((∃ xs, SqL X.K H1 a xs) ∧ Q (Itl X.K a) H1) ∨ ((∃ xs, SqT X.K H1 a xs) ∧ Q (Itt X.K a) H1))) bkI q s hq fun x n S1 G1 H1 s1 P o r => ?_⟩
  cases n with
  | bo i => exact r.elim
  | f d =>
    cases d <;> try exact r.elim
    · rename_i ds
      have o' : R X.K G1 (.lst ds) x := o
      simp only [R] at o'
      obtain ⟨a, vs, rfl, h1, h2⟩ := o'
      exact ⟨a, rfl, .inl ⟨⟨vs, SqL.of (s1.le.lst h1)⟩, r _ G1 H1 (Pst.refl s1) ⟨[], (fun _ z => nomatch z), it_list h1 h2⟩⟩⟩
    · rename_i ds
      have o' : R X.K G1 (.tup ds) x := o
      simp only [R] at o'
      obtain ⟨a, vs, rfl, h1, h2⟩ := o'
      exact ⟨a, rfl, .inr ⟨⟨vs, s1.le.sqt h1⟩, r _ G1 H1 (Pst.refl s1) ⟨[], (fun _ z => nomatch z), it_tup h1 h2⟩⟩⟩
end
end DL
set_option Elab.async false
set_option linter.all false
set_option maxRecDepth 100000
set_option maxHeartbeats 4000000
/-! DL15: calls with keywords, += of an item of an own list. -/
namespace DL
open PySem L2
section
variable {X : Cx} {W : WX'} {K : PySem.W.Frag}
variable {e a b c iter tg elt : Expr} {es ifs : List Expr} {f g h : Sl → Rs RV} {f1 g1 h1 : Sl → Rs NV} {fb gb : Sl → Rs Bool} {pos : Pos} {fa : Sl → Rs (List NV)}
/-! ### f(k = e, ..) -/
def pick {α : Type} (is : List Nat) (l : List α) : List α := is.filterMap (l[·]?)
theorem pick_paired {α β : Type} {P : α → β → Prop} {l : List α} {m : List β} (h : Paired P l m) : ∀ is : List Nat, Paired P (pick is l) (pick is m)
  | [] => .nil
  | i :: is => by
    unfold pick
    rw [List.filterMap_cons, List.filterMap_cons]
    have hl := h.length
    cases e : l[i]? with
    | none =>
      have e2 : m[i]? = none := by
        rw [List.getElem?_eq_none_iff] at e ⊢
        omega
      simp only [e, e2]
      exact pick_paired h is
    | some x =>
      obtain ⟨y, h1, h2⟩ := paired_get h e
      simp only [e, h1]
      exact .cons h2 (pick_paired h is)
theorem vals_pick {vs : List V} {us : List Value} (h : Vals vs us) (is : List Nat) : Vals (pick is vs) (pick is us) := pick_paired (P := RelV) h is
def fPick (is : List Nat) (fa : Sl → Rs (List NV)) : Sl → Rs (List NV) := fun S => (fa S).bind fun ns S1 => .ok (pick is ns) S1
def DK (X : Cx) (W : WX') (kws : List Keyword) (f : Sl → Rs (List NV)) : Prop := ∃ t, PK X kws t ∧ DenA X.K W t f ∧ LenA f kws.length
variable {kws : List Keyword} {nm : Option Str} {kpos : Pos}
theorem dk_nil : DK X W [] fNil := ⟨_, pk_nil, fun τ σ S G H s Q hq => hq [] G H (Pst.refl s) .nil, fun S ns S' e => by cases e; rfl⟩
theorem dk_cons (ha : DN X W e f1) (hb : DK X W kws fa) : DK X W (⟨nm, e, kpos⟩ :: kws) (fCons f1 fa) := by
  obtain ⟨ta, p, q⟩ := ha
  obtain ⟨tr, p1, q1, ln⟩ := hb
  refine ⟨_, pk_cons p p1, fun τ σ S G H s Q hq => ?_, fun S ns S' e => ?_⟩
  rotate_left
  · unfold fCons at e
    cases e1 : f1 S with
    | no => rw [e1] at e; cases e
    | ex x S1 => rw [e1] at e; cases e
    | ok n S1 =>
      rw [e1, Rs.bind_ok] at e
      cases e2 : fa S1 with
      | no => rw [e2] at e; cases e
      | ex x S1 => rw [e2] at e; cases e
      | ok ns S2 =>
        rw [e2] at e
        cases e
        show ns.length + 1 = kws.length + 1
        rw [ln _ _ _ e2]
  refine Gd.cases (Q1 := fun x H1 => tr σ H1 fun xs H2 => Q (x :: xs) H2) bkA q s hq fun x a S1 G1 H1 s1 P oa hq1 => ?_
  refine Gd.cases (Q1 := fun xs H2 => Q (x :: xs) H2) bkA q1 s1 hq1 fun xs as S2 G2 H2 s2 P2 oas hq2 => ?_
  exact hq2 _ G2 H2 (Pst.refl s2) (.cons (NVOk.mono oa P2.st.ext) oas)
theorem de_callKw {CX : CXT} {k k' : Nat} {ps ks : List Str} {F : Sl → Rs RV} {x : Str} {st : Stmt} {p : Pos} (is : List Nat) (wd : Wd X.K X.mg) (T : Tx X.K x st) (fd : Fd X.prog X.w X.K X.mg X.base CX k x ps F) (cg : Cg X.A k') (hk : k ≤ k') (hx : PassW CX X W)
    (hb : ∀ (kV doc pm : Value) (an : Option Addr) (cdv ct : Value) (ws : List Value), ws.length = ks.length → bindArgs (PySem.W.fnOf x x (defArgs st) (defBody st) (defScope st) .none kV doc pm an cdv ct) ⟨[], ks.zip ws⟩ = pure (ps.zip (pick is ws)))
    (hn : ks.length = kws.length) (hp : ∀ (ns : List NV), ns.length = kws.length → (pick is ns).length = ps.length) (ha : DK X W kws fa) (hg : Gl X x := by rfl) (hdb : (x == ("__debug__" : Str)) = false := by decide)
    (hall : (backToKw pos (keywordEach kws X.env)).all (·.1.isSome) = true := by rfl) (hks : (backToKw pos (keywordEach kws X.env)).filterMap (·.1) = ks := by rfl)
    (hpl : ((backTo pos (starEach [] X.env)).any (·.1) || (backToKw pos (keywordEach kws X.env)).any (·.1.isNone)) = false := by rfl) : DE X W (.Call (.Name x p) [] kws pos) (fCall F (fPick is fa)) := by
  obtain ⟨f, fdat, h1, h2, _, h4, oc, od, osl, lk⟩ := fd.ex
  obtain ⟨t, p1, q, ln⟩ := ha
  obtain ⟨f', fd', g1, g2⟩ := T.ex
  have ef := wd.of g1
  rw [h1] at ef
  have ef' : f = f' := Value.ref.inj (Option.some.inj ef)
  subst ef'
  obtain ⟨oc2, od2, kV, doc, pm, an, cdv, ct, osl2, efd, lk2, _⟩ := g2.ex
  rw [lk] at lk2
  have efd2 : fdat = fd' := by
    have := Option.some.inj lk2
    injection this with _ _ h _
    exact Data.func.inj h
  subst efd2
  refine ⟨fun σ H Q => t σ H fun vs H1 => vs.length = kws.length ∧ spD X.K ps.length F (pick is vs) H1 Q fun c d H' => W c d σ H', ?_, ?_⟩
  · refine ⟨fun pins s σ H Q I h => ?_⟩
    refine wpAny_Call_Name_kw (ld_glob I hg h1 ?_ hdb)
    refine PySem.W.callWith_KW0 (h₀ := X.base) I.ok.mod.kin h2 hall (thn (p1.run pos pins s σ H _ I h) fun ws s1 ⟨vs, H1, I1, r, hl, q1⟩ => ⟨I1.kIn, ?_⟩) hpl
    rw [hks]
    have lw : ws.length = ks.length := by rw [hn, ← hl]; exact r.length.symm
    have bt : BindsTo s1 fdat ⟨[], ks.zip ws⟩ (ps.zip (pick is ws)) := by
      rw [efd]
      exact BindsTo.of_eq (hb kV doc pm an cdv ct ws lw)
    refine wpAny_call (codeAny_mono (h4.go X.A X.stack s1 H1 ⟨[], ks.zip ws⟩ (pick is ws) (pick is vs) Q _ (cg.mono hk) I1.env0 bt (vals_pick r is) q1) fun res s' hq => ?_)
    cases res with
    | error e => exact hx pins σ H1 s1 e s' I1 hq
    | ok fl =>
      cases fl with
      | ret u => exact I1.after hq
      | next => exact hq.elim
      | brk => exact hq.elim
      | cont => exact hq.elim
  · -- the same as a call whose arguments are picked from what is written
    have den : DenA X.K W (fun σ H Q => t σ H fun vs H1 => vs.length = kws.length ∧ Q (pick is vs) H1) (fPick is fa) := by
      intro τ σ S G H s Q hq
      unfold fPick at hq
      cases e0 : fa S with
      | no => simp only [e0, Rs.bind_no] at hq; exact hq.elim
      | ex x S1 =>
        simp only [e0, Rs.bind_ex] at hq
        refine q τ σ S G H s _ ?_
        rw [e0]
        exact hq
      | ok ns S1 =>
        simp only [e0, Rs.bind_ok] at hq
        refine q τ σ S G H s _ ?_
        rw [e0]
        intro vs G1 H1 P oa
        exact ⟨by rw [oa.length]; exact ln _ _ _ e0, hq _ G1 H1 P (pick_paired oa is)⟩
    have lnP : LenA (fPick is fa) ps.length := fun S ns S' e => by
      unfold fPick at e
      cases e1 : fa S with
      | no => rw [e1] at e; cases e
      | ex x S1 => rw [e1] at e; cases e
      | ok ns' S1 =>
        rw [e1, Rs.bind_ok] at e
        cases e
        exact hp ns' (ln _ _ _ e1)
    exact den_call lnP den
/-! ### xs[i] += e, xs the own list of slot j, ints -/
def rGetL : V → V → Hp → VK → Prop := fun o i H Q => ∃ p xs k v, o = .ref p ∧ i = .int k ∧ H p = some (.lst xs) ∧ 0 ≤ k ∧ xs[k.toNat]? = some v ∧ Q v H
theorem get_list : PGet X rGetL := by
  intro pins s σ H o i ov iv Q I ro ri h
  obtain ⟨p, xs, k, v, rfl, rfl, hp, h0, hx, q⟩ := h
  cases ro
  obtain ⟨t, rfl⟩ := ri
  obtain ⟨its, n, r, ho, hz⟩ := I.lst hp
  obtain ⟨u, hu, ru⟩ := r.get hx
  have hl := (List.getElem?_eq_some_iff.mp hx).1
  have hn := line63
  exact wpAny_getItem_list (l := p) (items := its.toArray) ⟨_, ho, rfl, n, rfl⟩ h0 (by omega) (by simpa using hu) ⟨v, H, I, ru, q⟩
def sAugIx (j : Nat) (fi fe : Sl → Rs NV) : Sl → Out := fun S => bindS (fVar j S) fun _ S1 => bindS (fi S1) fun m S2 => match m with
  | .f (.int k) => (match S2[j]? with
    | some (.ol t ds) => if 0 ≤ k then (match ds[k.toNat]? with
      | some (.int x) => bindS (fe S2) fun n S3 => match n with
        | .f (.int y) => (match S3[j]? with
          | some (.ol t' ds') => (match ixN ds'.length k with
            | some q => .nx (S3.set j (.ol t' (ds'.set q (.int (x + y)))))
            | none => .no)
          | _ => .no)
        | _ => .no
      | _ => .no) else .no
    | _ => .no)
  | _ => .no
theorem ds_augIx (j : Nat) {x : Str} {px tpos : Pos} {i : Expr} (hi : DN X W i g1) (he : DN X W e f1) (hN : X.N[j]? = some x := by rfl) (hv : Vis X.env.scope x := by first | exact Or.inl rfl | exact Or.inr (Or.inl rfl) | exact Or.inr (Or.inr rfl)) (hd : (x == ("__debug__" : Str)) = false := by decide)
    (hcd : (x == ("__classdict__" : Str)) = false := by decide)
    (ha : ∀ ov iv new, augStore i ov iv new = (do holding [new, ov, iv] (setItem ov iv new); release [new, ov, iv] []; pure .next) := by intros; rfl) : DS X W (.AugAssign (.Subscript (.Name x px) i tpos) .Add e pos) (sAugIx j g1 f1) := by
  obtain ⟨ti, pi, qi⟩ := hi
  obtain ⟨te, pe, qe⟩ := he
  refine ⟨_, ps_augS (pe_var hN hv hd hcd) pi get_list pe ip_add set_list ha, fun τ σ S G H s D hq => ?_⟩
  refine den_varX (Q1 := fun o H1 => ti σ H1 fun i H2 => rGetL o i H2 fun x H3 => te σ H3 fun y H4 => ipI (fun i j => i + j) x y H4 fun z H5 => rSetL o i z H5 fun H6 => D.nx σ H6) j s hq fun ov _ hov r1 => ?_
  refine Gs.cases (Q1 := fun i H2 => rGetL ov i H2 fun x H3 => te σ H3 fun y H4 => ipI (fun i j => i + j) x y H4 fun z H5 => rSetL ov i z H5 fun H6 => D.nx σ H6) qi s r1 fun y m S2 G2 H2 s2 P2 o2 r2 => ?_
  cases m with
  | bo i => exact r2.elim
  | f dk =>
    cases dk <;> try exact r2.elim
    rename_i k
    cases (show y = .int k from o2)
    cases e1 : S2[j]? with
    | none => simp only [e1] at r2; exact r2.elim
    | some sv =>
      cases sv with
      | u => simp only [e1] at r2; exact r2.elim
      | f d => simp only [e1] at r2; exact r2.elim
      | od t ks ds => simp only [e1] at r2; exact r2.elim
      | ol t ds =>
        simp only [e1] at r2
        by_cases h0 : 0 ≤ k
        · rw [if_pos h0] at r2
          cases e2 : ds[k.toNat]? with
          | none => simp only [e2] at r2; exact r2.elim
          | some d =>
            cases d <;> try (simp only [e2] at r2; exact r2.elim)
            rename_i x0
            simp only [e2] at r2
            obtain ⟨p, vs, k1, k2, k3, k4, k5, ow⟩ := ow_at s2 e1
            rw [vAt_of hov] at k1
            cases k1
            obtain ⟨v, g1', g2'⟩ := k4.get e2
            cases (show v = .int x0 from g2')
            refine ⟨p, vs, k, _, rfl, rfl, k2, h0, g1', ?_⟩
            refine Gs.cases (Q1 := fun y H4 => ipI (fun i j => i + j) (.int x0) y H4 fun z H5 => rSetL (.ref p) (.int k) z H5 fun H6 => D.nx σ H6) qe s2 r2 fun y n S3 G3 H3 s3 P3 o3 r3 => ?_
            cases n with
            | bo i => exact r3.elim
            | f dn =>
              cases dn <;> try exact r3.elim
              rename_i y0
              cases (show y = .int y0 from o3)
              cases e3 : S3[j]? with
              | none => simp only [e3] at r3; exact r3.elim
              | some sv =>
                cases sv with
                | u => simp only [e3] at r3; exact r3.elim
                | f d => simp only [e3] at r3; exact r3.elim
                | od t ks ds => simp only [e3] at r3; exact r3.elim
                | ol t' ds' =>
                  simp only [e3] at r3
                  cases e4 : ixN ds'.length k with
                  | none => simp only [e4] at r3; exact r3.elim
                  | some q =>
                    simp only [e4] at r3
                    obtain ⟨p', vs', k1', k2', k3', k4', k5', ow'⟩ := ow_at s3 e3
                    rw [vAt_of hov] at k1'
                    cases k1'
                    exact ⟨x0, y0, rfl, rfl, p, vs', k, q, rfl, rfl, k2', by rw [k4'.len]; exact e4, r3 σ G3 _ (pst_putL s3 e3 (vAt_of hov) (RL.set (e := .int (x0 + y0)) rfl q k4')).s⟩
        · rw [if_neg h0] at r2
          exact r2.elim
end
end DL
set_option Elab.async false
set_option linter.all false
set_option maxRecDepth 100000
set_option maxHeartbeats 4000000
/-! DL16: a def that hands back a pair whose first item is a new list; f(..)[0]. -/
namespace DL
open PySem L2
open PyProof.Rows (envOfC)
section
variable {X : Cx} {W : WX'} {K : PySem.W.Frag}
variable {e a b c iter tg elt : Expr} {es ifs : List Expr} {f g h : Sl → Rs RV} {f1 g1 h1 : Sl → Rs NV} {fb gb : Sl → Rs Bool} {pos : Pos} {fa : Sl → Rs (List NV)} {st : Stmt} {rest : List Stmt} {F F2 : Sl → Out}
/-- v is wished for as the first item of a new pair -/
def Unw (Q : VK) : VK := fun v H => ∀ p t, H p = none → Q (.ref p) (upd H p (.tup [v, t]))
def DSp (X : Cx) (W : WX') (st : List Stmt) (F : Sl → Out) : Prop := ∃ t, PSs X st t ∧ ∀ τ σ S G H, SlOk X.K τ G H σ S → ∀ D : Ends, Gs X.K W τ σ S G H (F S) { D with rt := Unw D.rt } → t D σ H
/-- F does not hand anything back -/
def sSeqN (F F2 : Sl → Out) : Sl → Out := fun S => match F S with
  | .nx S1 => F2 S1
  | .ex x S1 => .ex x S1
  | _ => .no
theorem dsp_cons (h : DS X W st F) (h2 : DSp X W rest F2) : DSp X W (st :: rest) (sSeqN F F2) := by
  obtain ⟨t, p, q⟩ := h
  obtain ⟨t2, p2, q2⟩ := h2
  refine ⟨_, pss_cons p p2, fun τ σ S G H s D hq => q τ σ S G H s { D with nx := t2 D } ?_⟩
  unfold sSeqN at hq
  cases e : F S with
  | nx S1 =>
    simp only [e] at hq
    exact fun σ1 G1 H1 P => q2 τ σ1 S1 G1 H1 P.sl D (hq.back P)
  | rt r S1 => simp only [e] at hq; exact hq.elim
  | bk S1 => simp only [e] at hq; exact hq.elim
  | ct S1 => simp only [e] at hq; exact hq.elim
  | ex x S1 => simp only [e] at hq; exact hq
  | no => simp only [e] at hq; exact hq.elim
/-- return (xs, e): xs the own list of slot i -/
def sRetP (i : Nat) (f : Sl → Rs NV) : Sl → Out := fun S => bindS (fVar i S) fun _ S1 => bindS (f S1) fun _ S2 => match S2[i]? with
  | some (.ol none ds) => .rt (.ol ds) (S2.set i .u)
  | _ => .no
theorem dsp_ret (i : Nat) {x : Str} {px tp : Pos} {k : Nat} (hb : DN X W b f1) (hN : X.N[i]? = some x := by rfl) (hv : Vis X.env.scope x := by first | exact Or.inl rfl | exact Or.inr (Or.inl rfl) | exact Or.inr (Or.inr rfl)) (hd : (x == ("__debug__" : Str)) = false := by decide)
    (hcd : (x == ("__classdict__" : Str)) = false := by decide)
    (hs1 : starEach [.Name x px, b] X.env = (false, eval (.Name x px) X.env) :: starEach [b] X.env := by rfl) (hs2 : starEach [b] X.env = (false, eval b X.env) :: starEach [] X.env := by rfl) :
    DSp X W [.Return (some (.Tuple [.Name x px, b] k tp)) pos] (sRetP i f1) := by
  obtain ⟨t, p, q⟩ := hb
  refine ⟨_, pss_one (ps_ret (pe_tup (pa_cons (pe_var hN hv hd hcd) (pa_cons p pa_nil hs2) hs1))), fun τ σ S G H s D hq => ?_⟩
  refine den_varX (Q1 := fun v H1 => t σ H1 fun y H2 => (([v, y] : List V).length ≤ sizeLine ∧ ∀ p, H2 p = none → D.rt (.ref p) (upd H2 p (.tup [v, y])))) i s hq fun v _ hov r1 => ?_
  refine Gs.cases (Q1 := fun y H2 => (([v, y] : List V).length ≤ sizeLine ∧ ∀ p, H2 p = none → D.rt (.ref p) (upd H2 p (.tup [v, y])))) q s r1 fun y n S2 G2 H2 s2 P2 o2 r2 => ⟨by show 2 ≤ sizeLine; decide, fun pp hpp => ?_⟩
  cases e1 : S2[i]? with
  | none => simp only [e1] at r2; exact r2.elim
  | some sv =>
    cases sv with
    | u => simp only [e1] at r2; exact r2.elim
    | f d => simp only [e1] at r2; exact r2.elim
    | od t ks ds => simp only [e1] at r2; exact r2.elim
    | ol t ds =>
      cases t with
      | some j => simp only [e1] at r2; exact r2.elim
      | none =>
        simp only [e1] at r2
        obtain ⟨q', vs, h1, h2, h3, h4, h5, ow⟩ := ow_at s2 e1
        rw [vAt_of hov] at h1
        cases h1
        obtain ⟨s3, back⟩ := sl_drop i s2
        have P3 : SPst X.K τ σ S2 G2 H2 σ (S2.set i .u) G2 H2 := ⟨Stp.refl, s3, fun p ⟨j, z⟩ => .inl ⟨j, (back j p z).1⟩⟩
        refine r2 _ σ G2 H2 P3 ⟨q', vs, rfl, h2, h3, h4⟩ (fun q'' eq => ?_) pp y hpp
        cases eq
        exact ⟨.inl ⟨i, ow⟩, fun ⟨j, z⟩ => (back j _ z).2 (s2.ap j i _ (back j _ z).1 ow)⟩
/-- F hands something back, or is not told -/
def RetP (F : Sl → Out) : Prop := ∀ S, (∃ r S', F S = .rt r S') ∨ F S = .no ∨ ∃ x S', F S = .ex x S'
theorem retP_seq (h : RetP F2) : RetP (sSeqN F F2) := fun S => by
  unfold sSeqN
  cases F S with
  | nx S1 => exact h S1
  | ex x S1 => exact .inr (.inr ⟨x, S1, rfl⟩)
  | _ => exact .inr (.inl rfl)
theorem retP_ret {i : Nat} : RetP (sRetP i f1) := fun S => by
  unfold sRetP
  cases fVar i S with
  | no => exact .inr (.inl rfl)
  | ex x S1 => exact .inr (.inr ⟨x, S1, rfl⟩)
  | ok r S1 =>
    simp only [bindS_ok]
    cases f1 S1 with
    | no => exact .inr (.inl rfl)
    | ex x S1 => exact .inr (.inr ⟨x, S1, rfl⟩)
    | ok n S2 =>
      simp only [bindS_ok]
      split
      · exact .inl ⟨_, _, rfl⟩
      · exact .inr (.inl rfl)
def spP (K : PySem.W.Frag) (n : Nat) (F : Sl → Rs RV) : Sp := fun vs H Q E => spD K n F vs H (Unw Q) E
structure FdP (P : Program) (w : World) (K : PySem.W.Frag) (mg : Str → Option Value) (base : Heap) (CX : CXT) (k : Nat) (x : Str) (ps : List Str) (F : Sl → Rs RV) : Prop where
  ex : ∃ f fd, mg x = some (.ref f) ∧ PySem.W.keepIn K (.ref f) = true ∧ Binds K fd ps [] ∧ FnG P w K mg base CX k f fd ps (spP K ps.length F)
theorem fdp_den {P : Program} {w : World} {mg : Str → Option Value} {base : Heap} {k m : Nat} {x : Str} {st : Stmt} {N ps : List Str} (wd : Wd K mg) (T : Tx K x st) (S : FnScope N ps (defScope st)) (hN : N.length = ps.length + m)
    (hb : ∀ (kV doc pm : Value) (an : Option Addr) (cdv ct : Value) (us : List Value), us.length = ps.length → bindArgs (PySem.W.fnOf x x (defArgs st) (defBody st) (defScope st) .none kV doc pm an cdv ct) ⟨us, []⟩ = pure (ps.zip us))
    (bd : ∀ (f : Addr) (cdv : Value) (A : Around) (outer : List Env) (s : Shared) (H : Hp) (E : XK), Cg (A.deeper (PyProof.Rows.envOfC x (defScope st) s.heap.objs.size f cdv)) k →
      DSp (cxOf CX0 P w K mg base N x (defScope st) f cdv A outer s H E).nox W0 (defBody st) F)
    (ret : RetP F) : FdP P w K mg base CX0 (k + 1) x ps (bodyF0 m F) := by
  obtain ⟨f, fd, h1, h2⟩ := T.ex
  refine ⟨f, fd, wd.of h1, h2.kp, h2.binds hb, ?_⟩
  obtain ⟨oc, od, kV, doc, pm, an, cdv, ct, osl, rfl, lk, hcd⟩ := h2.ex
  refine fnG_of lk hcd S (fun vs H Q E h => h.1) fun A outer s H vs Q E cg hsp => ?_
  obtain ⟨hlen, τ, G, S0, s0, par, gf⟩ := hsp
  obtain ⟨t, p1, q1⟩ := bd f cdv A outer s H E cg
  have key : Gf K τ (Ow (vs.map some) S0) G H (bodyF m F S0) (Unw Q) E ∧ ∀ x S', F (S0 ++ List.replicate m .u) ≠ .ex x S' := by
    unfold bodyF0 at gf
    unfold bodyF
    cases eF : F (S0 ++ List.replicate m .u) with
    | ex x S' => simp only [eF] at gf; exact gf.elim
    | no => simp only [eF] at gf; exact gf.elim
    | bk S' => simp only [eF] at gf; exact gf.elim
    | ct S' => simp only [eF] at gf; exact gf.elim
    | nx S' => simp only [eF] at gf; exact ⟨gf, fun _ _ z => nomatch z⟩
    | rt r S' => simp only [eF] at gf; exact ⟨gf, fun _ _ z => nomatch z⟩
  obtain ⟨s1, g1⟩ := body_gs (W := W0) (N := N) (by rw [hlen]; exact hN) s0 par key.1 (.inr key.2)
  refine ⟨t, p1.nox, q1 τ _ _ G H s1 _ ?_⟩
  rcases ret (S0 ++ List.replicate m .u) with ⟨r, S', e⟩ | e | ⟨y, S', e⟩
  · rw [e] at g1 ⊢
    exact g1
  · rw [e] at g1
    exact g1.elim
  · exact absurd e (key.2 y S')
theorem Gd.newT {τ : Nat → Addr} {σ : L2.St} {S : Sl} {G H : Hp} {o : Rs RV} {Q : VK} (h : Gd (okR K σ) K W τ σ S G H o Q) : Gd (okR K σ) K W τ σ S G H o (fun v H' => ∀ p t, H' p = none → Q v (upd H' p (.tup [v, t]))) := by
  cases o with
  | no => exact h
  | ex x S' => exact h
  | ok r S' =>
    intro v G' H' P ⟨ro, fr⟩ p t hp
    have st := stp_new (G := G') (o := .tup [v, t]) hp
    have l := le_new (o := .tup [v, t]) P.sl.le hp
    exact h v G' _ (P.trans (Pst.new P.sl st l)) ⟨ro.keep st fun _ _ z => z, fr⟩
theorem de_fst {CX : CXT} {k k' : Nat} {ps : List Str} {Fd' : Sl → Rs RV} {x : Str} {p p2 : Pos} {j : Nat} (fd : FdP X.prog X.w X.K X.mg X.base CX k x ps Fd') (cg : Cg X.A k') (hk : k ≤ k') (hx : PassW CX X W) (hn : ps.length = (e :: es).length) (ha : DA X W (e :: es) fa)
    (hs : PlainIx (.Constant (.int 0) j p2)) (hg : Gl X x := by rfl) (hdb : (x == ("__debug__" : Str)) = false := by decide)
    (he : starEach (e :: es) X.env = (false, eval e X.env) :: starEach es X.env := by rfl) (hpl : (backTo pos (starEach es X.env)).any (·.1) = false := by rfl) :
    DE X W (.Subscript (.Call (.Name x p) (e :: es) [] pos) (.Constant (.int 0) j p2) pt) (fCall Fd' fa) := by
  obtain ⟨f, fdat, h1, h2, h3, h4⟩ := fd.ex
  obtain ⟨t, p1, q, ln⟩ := ha
  refine ⟨_, pe_ix ix_tup (pe_cl h4 (cg.mono hk) h1 h2 h3 hx p1 hg hdb he hpl) pe_int hs, fun τ σ S G H s Q hq => ?_⟩
  have main := den_call (K := X.K) (W := W) (n := ps.length) (F := Fd') (by rw [hn]; exact ln) q τ σ S G H s (Unw fun x H1 => rIxT X.K x (.int 0) H1 Q) ?_
  · exact main
  · have hq' := hq.newT
    cases o : fCall Fd' fa S with
    | no => rw [o] at hq'; exact hq'
    | ex x S' => rw [o] at hq'; exact hq'
    | ok r S' =>
      rw [o] at hq'
      intro v G' H' P ok pp t hp
      exact ⟨pp, [v, t], 0, v, rfl, rfl, .inl (.inl upd_same), rfl, hq' v G' H' P ok pp t hp⟩
/-! ### comparisons as tests -/
theorem pc_R {op : CmpOp} {r : R2} {ta tb : TE} (ho : OpR X (compareOp op) r) (ha : PE X a ta) (hb : PE X b tb) : PC X op a b (tOp r ta tb) :=
  ⟨fun pins s σ H Q I hw => thn (ha.run pins s σ H _ I hw) fun v s1 ⟨x, H1, I1, r1, q1⟩ => thn (hb.run pins s1 σ H1 _ I1 q1) fun u s2 ⟨y, H2, I2, r2, q2⟩ => ho pins s2 σ H2 x y v u Q I2 r1 r2 q2⟩
theorem dt_cmp {op : CmpOp} {r : R2} {o : D → D → Option RV} (ho : OpR X (compareOp op) r) (oo : OpOk X.K r o) (ha : DN X W a f1) (hb : DN X W b g1) (hm : behindInMarks op b = false := by rfl) : DT X W (.Compare a [op] [b] pos) (fB (frz (fOp o f1 g1))) :=
  let ⟨_, p1, d1⟩ := ha; let ⟨_, p2, d2⟩ := hb; ⟨_, pt_cmp (pc_R ho p1 p2) hm, den_B (den_frz (den_op oo d1 d2))⟩
theorem dt_lt (ha : DN X W a f1) (hb : DN X W b g1) (hm : behindInMarks .Lt b = false := by rfl) : DT X W (.Compare a [.Lt] [b] pos) (fB (frz (fOp oLt f1 g1))) := dt_cmp op_lt (oo_I0 fun _ _ _ => rfl) ha hb hm
theorem dt_le (ha : DN X W a f1) (hb : DN X W b g1) (hm : behindInMarks .LtE b = false := by rfl) : DT X W (.Compare a [.LtE] [b] pos) (fB (frz (fOp oLe f1 g1))) := dt_cmp op_le (oo_I0 fun _ _ _ => rfl) ha hb hm
theorem dt_gt (ha : DN X W a f1) (hb : DN X W b g1) (hm : behindInMarks .Gt b = false := by rfl) : DT X W (.Compare a [.Gt] [b] pos) (fB (frz (fOp oGt f1 g1))) := dt_cmp op_gt (oo_I0 fun _ _ _ => rfl) ha hb hm
theorem dt_ge (ha : DN X W a f1) (hb : DN X W b g1) (hm : behindInMarks .GtE b = false := by rfl) : DT X W (.Compare a [.GtE] [b] pos) (fB (frz (fOp oGe f1 g1))) := dt_cmp op_ge (oo_I0 fun _ _ _ => rfl) ha hb hm
theorem dt_isN (ha : DN X W a f1) (hb : DN X W b g1) (hm : behindInMarks .Is b = false := by rfl) : DT X W (.Compare a [.Is] [b] pos) (fB (frz (fOp (isN false) f1 g1))) := dt_cmp op_isN (oo_isN) ha hb hm
theorem dt_notN (ha : DN X W a f1) (hb : DN X W b g1) (hm : behindInMarks .IsNot b = false := by rfl) : DT X W (.Compare a [.IsNot] [b] pos) (fB (frz (fOp (isN true) f1 g1))) := dt_cmp op_notN (oo_notN) ha hb hm
theorem dt_isB (ha : DN X W a f1) (hb : DN X W b g1) (hm : behindInMarks .Is b = false := by rfl) : DT X W (.Compare a [.Is] [b] pos) (fB (frz (fOp (oIsB false) f1 g1))) := dt_cmp op_isBl (oo_isB) ha hb hm
theorem dt_notB (ha : DN X W a f1) (hb : DN X W b g1) (hm : behindInMarks .IsNot b = false := by rfl) : DT X W (.Compare a [.IsNot] [b] pos) (fB (frz (fOp (oIsB true) f1 g1))) := dt_cmp op_notBl (oo_notB) ha hb hm
theorem dt_eq {k : Nat} (cg : Cg X.A k) (ha : DN X W a f1) (hb : DN X W b g1) (hm : behindInMarks .Eq b = false := by rfl) : DT X W (.Compare a [.Eq] [b] pos) (fB (frz (fOp (eqD false) f1 g1))) := dt_cmp (op_eq.or (op_eqD cg.room.units)) oo_eqD ha hb hm
theorem dt_ne {k : Nat} (cg : Cg X.A k) (ha : DN X W a f1) (hb : DN X W b g1) (hm : behindInMarks .NotEq b = false := by rfl) : DT X W (.Compare a [.NotEq] [b] pos) (fB (frz (fOp (eqD true) f1 g1))) := dt_cmp (op_ne.or (op_neD cg.room.units)) oo_neD ha hb hm
theorem dt_notInT {x : Str} {p : Pos} {ks : List Str} (wd : Wd X.K X.mg) (t : Tb X.K X.w x ks) (ha : DN X W a f1) (hg : Gl X x := by rfl) (hdb : (x == ("__debug__" : Str)) = false := by decide) (hm : behindInMarks .NotIn (.Name x p) = false := by rfl) :
    DT X W (.Compare a [.NotIn] [.Name x p] pos) (fB (frz (fInT true ks f1))) := by
  obtain ⟨d, es, n, h1, h2, h3⟩ := t.ex
  obtain ⟨ta, p1, d1⟩ := ha
  exact ⟨_, pt_cmp (pc_R (op_notIn_kd h2) p1 (pe_glob (v := .ref d) hg (wd.of h1) rfl hdb)) hm, den_B (den_frz (den_inT (w := X.w) true h3 d1))⟩
theorem dt_inT {x : Str} {p : Pos} {ks : List Str} (wd : Wd X.K X.mg) (t : Tb X.K X.w x ks) (ha : DN X W a f1) (hg : Gl X x := by rfl) (hdb : (x == ("__debug__" : Str)) = false := by decide) (hm : behindInMarks .In (.Name x p) = false := by rfl) :
    DT X W (.Compare a [.In] [.Name x p] pos) (fB (frz (fInT false ks f1))) := by
  obtain ⟨d, es, n, h1, h2, h3⟩ := t.ex
  obtain ⟨ta, p1, d1⟩ := ha
  exact ⟨_, pt_cmp (pc_R (op_in_kd h2) p1 (pe_glob (v := .ref d) hg (wd.of h1) rfl hdb)) hm, den_B (den_frz (den_inT (w := X.w) false h3 d1))⟩
end
end DL
set_option Elab.async false
set_option linter.all false
set_option maxRecDepth 100000
set_option maxHeartbeats 4000000
/-! DL17: facts of the top, the law's own def. -/
namespace DL
open PySem L2
theorem law_end {P : Program} {w : World} {K : PySem.W.Frag} {mg : Str → Option Value} {k : Nat} {fa : Addr} {x p : Str} {st : Stmt} {F : Sl → Rs RV} (wd : Wd K mg) (T : Tx K x st) (hmg : mg x = some (.ref fa))
    (hb : ∀ (kV doc pm : Value) (an : Option Addr) (cdv ct : Value) (u : Value), bindArgs (PySem.W.fnOf x x (defArgs st) (defBody st) (defScope st) .none kV doc pm an cdv ct) ⟨[u], []⟩ = pure [(p, u)]) (h : ∀ base : Heap, Fd P w K mg base CX0 k x [p] F) :
    ∃ fd : FuncData, (∀ (s : Shared) (u : Value), BindsTo s fd ⟨[u], []⟩ [(p, u)]) ∧ ∀ base : Heap, K.In base → base.Ns mainGlobals mg → FnG P w K mg base CX0 k fa fd [p] (spD K 1 F) := by
  obtain ⟨f', fd', g1, g2⟩ := T.ex
  have ef := wd.of g1
  rw [hmg] at ef
  have ef' : fa = f' := Value.ref.inj (Option.some.inj ef)
  subst ef'
  obtain ⟨oc2, od2, kV, doc, pm, an, cdv, ct, osl2, efd, lk2, _⟩ := g2.ex
  refine ⟨fd', fun s u => ?_, fun base _ _ => ?_⟩
  · rw [efd]
    exact BindsTo.of_eq (hb kV doc pm an cdv ct u)
  · obtain ⟨f, fdat, h1, _, _, h4, oc, od, osl, lk⟩ := (h base).ex
    rw [hmg] at h1
    have e1 : fa = f := Value.ref.inj (Option.some.inj h1)
    subst e1
    rw [lk] at lk2
    have e2 : fdat = fd' := by
      have := Option.some.inj lk2
      injection this with _ _ h _
      exact Data.func.inj h
    subst e2
    exact h4
/-- a table of the top -/
theorem tbd_mk {K : PySem.W.Frag} {w : World} {x : Str} {ks : List (Str × Str)} {d : Addr} {es : Array DictEntry} {n : Nat} (a : PySem.W.nsIn K mainGlobals x = some (some (.ref d))) (l : K.lookup d = some ⟨.type "dict", none, .dict es n, #[]⟩) (q : PySem.W.KeysLit w.params es.toList)
    (low : (d == sysModules) = false) (h : ∀ z ∈ ks, ∃ f, PySem.W.nsIn K d z.1 = some (some (.ref f)) ∧ PySem.W.nsIn K mainGlobals z.2 = some (some (.ref f))) : TbD K w x ks := ⟨d, es, n, a, ⟨l, q, low⟩, h⟩
theorem wd_of {K : PySem.W.Frag} {mg : Str → Option Value} {h : Heap} (X : K.In h) (G : h.Ns mainGlobals mg) : Wd K mg := ⟨h, X, G⟩
theorem gint_mk {K : PySem.W.Frag} {mg : Str → Option Value} {x : Str} {v : Int} {t : Tok} (wd : Wd K mg) (h : PySem.W.nsIn K mainGlobals x = some (some (.int v t))) : ∃ t, mg x = some (.int v t) := ⟨t, wd.of h⟩
theorem gstr_mk {K : PySem.W.Frag} {mg : Str → Option Value} {x : Str} {v : Str} {t : Tok} (wd : Wd K mg) (h : PySem.W.nsIn K mainGlobals x = some (some (.str v t))) : ∃ t, mg x = some (.str v t) := ⟨t, wd.of h⟩
/-- entries of a table, one after another -/
inductive Ents (K : PySem.W.Frag) (d : Addr) : List (Str × Str) → Prop
  | nil : Ents K d []
  | cons {f : Addr} {z y : Str} {ks : List (Str × Str)} (h1 : PySem.W.nsIn K d z = some (some (.ref f))) (h2 : PySem.W.nsIn K mainGlobals y = some (some (.ref f))) (t : Ents K d ks) : Ents K d ((z, y) :: ks)
theorem Ents.all {K : PySem.W.Frag} {d : Addr} {ks : List (Str × Str)} (h : Ents K d ks) : ∀ z ∈ ks, ∃ f, PySem.W.nsIn K d z.1 = some (some (.ref f)) ∧ PySem.W.nsIn K mainGlobals z.2 = some (some (.ref f)) := by
  induction h with
  | nil => exact fun _ z => nomatch z
  | cons h1 h2 _ ih =>
    intro z hz
    rcases List.mem_cons.mp hz with rfl | hz
    · exact ⟨_, h1, h2⟩
    · exact ih z hz
theorem tbd_mk2 {K : PySem.W.Frag} {w : World} {x : Str} {ks : List (Str × Str)} {d : Addr} (a : PySem.W.nsIn K mainGlobals x = some (some (.ref d))) (q : He.dicW K d = some (He.keysIn w.params (ks.map (·.1)))) (h : Ents K d ks) : TbD K w x ks := by
  obtain ⟨es, n, D⟩ := He.dicW_ok q
  exact ⟨d, es, n, a, D, h.all⟩
end DL
set_option Elab.async false
set_option linter.all false
set_option maxRecDepth 100000
set_option maxHeartbeats 4000000
/-! ST1: the ways of a search through a table: each slot is met. -/
namespace DL
open PySem
/-! ### x -> 5 x + 1 goes through all rests by a power of two -/
def g5 (n x : Nat) : Nat := match n with
  | 0 => x
  | n + 1 => g5 n (5 * x + 1)
theorem g5_add : ∀ (a b x : Nat), g5 (a + b) x = g5 b (g5 a x)
  | 0, b, x => by rw [Nat.zero_add]; rfl
  | a + 1, b, x => by
    rw [show a + 1 + b = (a + b) + 1 from by omega]
    show g5 (a + b) (5 * x + 1) = g5 b (g5 a (5 * x + 1))
    exact g5_add a b _
theorem g5_pow : ∀ k : Nat, ∃ v : Nat, v % 2 = 1 ∧ ∀ x, g5 (2 ^ k) x = x + 2 ^ k * v * (4 * x + 1)
  | 0 => ⟨1, rfl, fun x => by show 5 * x + 1 = _; omega⟩
  | k + 1 => by
    obtain ⟨v, hv, h⟩ := g5_pow k
    refine ⟨v + 2 * (2 ^ k * v * v), by omega, fun x => ?_⟩
    rw [show 2 ^ (k + 1) = 2 ^ k + 2 ^ k from by rw [Nat.pow_succ]; omega, g5_add, h (g5 (2 ^ k) x), h x]
    generalize 2 ^ k = p
    grind
theorem g5_half (k x : Nat) : g5 (2 ^ k) x % 2 ^ (k + 1) = (x + 2 ^ k) % 2 ^ (k + 1) := by
  obtain ⟨v, hv, h⟩ := g5_pow k
  obtain ⟨w, rfl⟩ : ∃ w, v = 2 * w + 1 := ⟨v / 2, by omega⟩
  rw [h, show 2 ^ (k + 1) = 2 * 2 ^ k from by rw [Nat.pow_succ]; omega]
  generalize 2 ^ k = p
  rw [show x + p * (2 * w + 1) * (4 * x + 1) = (x + p) + (2 * p) * (w * (4 * x + 1) + 2 * x) from by grind]
  exact Nat.add_mul_mod_self_left _ _ _
theorem g5_mod (m : Nat) : ∀ (n x y : Nat), x % m = y % m → g5 n x % m = g5 n y % m
  | 0, x, y, h => h
  | n + 1, x, y, h => g5_mod m n _ _ (by rw [Nat.add_mod, Nat.mul_mod, h, ← Nat.mul_mod, ← Nat.add_mod])
theorem half_case {p y e : Nat} (hp : 0 < p) (hy : y < 2 * p) (he : e < 2 * p) (h : y % p = e % p) (hne : ¬ y = e) : (y + p) % (2 * p) = e := by
  rcases Nat.lt_or_ge y p with a | a <;> rcases Nat.lt_or_ge e p with b | b
  · rw [Nat.mod_eq_of_lt a, Nat.mod_eq_of_lt b] at h
    exact absurd h hne
  · rw [Nat.mod_eq_of_lt a, Nat.mod_eq_sub_mod b, Nat.mod_eq_of_lt (by omega)] at h
    rw [Nat.mod_eq_of_lt (by omega)]
    omega
  · rw [Nat.mod_eq_of_lt b, Nat.mod_eq_sub_mod a, Nat.mod_eq_of_lt (by omega)] at h
    rw [show y + p = e + 2 * p from by omega, Nat.add_mod_right, Nat.mod_eq_of_lt he]
  · rw [Nat.mod_eq_sub_mod b, Nat.mod_eq_of_lt (show e - p < p by omega), Nat.mod_eq_sub_mod a, Nat.mod_eq_of_lt (show y - p < p by omega)] at h
    omega
theorem g5_all : ∀ (k x e : Nat), e < 2 ^ k → ∃ r, r < 2 ^ k ∧ g5 r x % 2 ^ k = e
  | 0, x, e, h => ⟨0, by omega, by omega⟩
  | k + 1, x, e, h => by
    have hp : 0 < 2 ^ k := Nat.two_pow_pos k
    have e2 : 2 ^ (k + 1) = 2 * 2 ^ k := by rw [Nat.pow_succ]; omega
    obtain ⟨r, h1, h2⟩ := g5_all k x (e % 2 ^ k) (Nat.mod_lt _ hp)
    have h3 : g5 r x % 2 ^ (k + 1) % 2 ^ k = e % 2 ^ k := by
      rw [e2, Nat.mod_mul_left_mod, h2]
    have h4 : g5 r x % 2 ^ (k + 1) < 2 ^ (k + 1) := Nat.mod_lt _ (by omega)
    by_cases q : g5 r x % 2 ^ (k + 1) = e
    · exact ⟨r, by omega, q⟩
    · refine ⟨r + 2 ^ k, by omega, ?_⟩
      rw [e2] at h3 h4 q ⊢
      rw [g5_add, ← e2, g5_half, e2]
      rw [Nat.add_mod]
      rw [Nat.mod_eq_of_lt (show 2 ^ k < 2 * 2 ^ k from by omega)]
      exact half_case hp h4 (by omega) h3 q
/-! ### the steps of a search -/
abbrev Pr := SetTable.Probe
/-- one step on -/
def adv (m : Nat) (p : Pr) : Pr := if p.more > 0 then { p with j := p.j + 1, more := p.more - 1 } else
  { p with j := (SetTable.leap m p.i p.perturb).1, more := SetTable.runEnd m (SetTable.leap m p.i p.perturb).1 - (SetTable.leap m p.i p.perturb).1, i := (SetTable.leap m p.i p.perturb).1, perturb := (SetTable.leap m p.i p.perturb).2 }
theorem adv_eq (t : SetTable) (p : Pr) : t.advance p = adv t.mask p := by
  unfold SetTable.advance adv
  split <;> rfl
def steps (m : Nat) : Nat → Pr → Pr
  | 0, p => p
  | n + 1, p => steps m n (adv m p)
theorem steps_add (m : Nat) : ∀ (a b : Nat) (p : Pr), steps m (a + b) p = steps m b (steps m a p)
  | 0, b, p => by rw [Nat.zero_add]; rfl
  | a + 1, b, p => by
    rw [show a + 1 + b = (a + b) + 1 from by omega]
    show steps m (a + b) (adv m p) = steps m b (steps m a (adv m p))
    exact steps_add m a b _
theorem steps_snoc (m n : Nat) (p : Pr) : steps m (n + 1) p = adv m (steps m n p) := by
  rw [steps_add]
  rfl
/-- the start of a run -/
def run0 (m i pt : Nat) : Pr := { j := i, more := SetTable.runEnd m i - i, i := i, perturb := pt, dummy := none }
/-- within a run -/
theorem steps_run (m i pt : Nat) : ∀ k, k ≤ SetTable.runEnd m i - i → steps m k (run0 m i pt) = { j := i + k, more := SetTable.runEnd m i - i - k, i := i, perturb := pt, dummy := none }
  | 0, _ => rfl
  | k + 1, h => by
    rw [steps_snoc, steps_run m i pt k (by omega)]
    unfold adv
    rw [if_pos (by show SetTable.runEnd m i - i - k > 0; omega)]
    simp only [SetTable.Probe.mk.injEq, and_true, true_and]
    omega
theorem runEnd_ge (m i : Nat) : i ≤ SetTable.runEnd m i ∧ SetTable.runEnd m i ≤ i + 9 := by
  unfold SetTable.runEnd
  split <;> omega
theorem runEnd_le {m i : Nat} (h : i ≤ m) : SetTable.runEnd m i ≤ m := by
  unfold SetTable.runEnd
  split <;> omega
theorem steps_leap (m i pt : Nat) : steps m (SetTable.runEnd m i - i + 1) (run0 m i pt) = run0 m (SetTable.leap m i pt).1 (SetTable.leap m i pt).2 := by
  rw [steps_snoc, steps_run m i pt _ (Nat.le_refl _)]
  unfold adv
  rw [if_neg (by show ¬ SetTable.runEnd m i - i - (SetTable.runEnd m i - i) > 0; omega)]
  rfl
/-- the starts of the runs -/
def leaps (m : Nat) : Nat → Nat × Nat → Nat × Nat
  | 0, x => x
  | r + 1, x => leaps m r (SetTable.leap m x.1 x.2)
theorem leaps_add (m : Nat) : ∀ (a b : Nat) (x : Nat × Nat), leaps m (a + b) x = leaps m b (leaps m a x)
  | 0, b, x => by rw [Nat.zero_add]; rfl
  | a + 1, b, x => by
    rw [show a + 1 + b = (a + b) + 1 from by omega]
    exact leaps_add m a b _
theorem steps_leaps (m : Nat) : ∀ (r i pt : Nat), ∃ n, n ≤ 10 * r ∧ steps m n (run0 m i pt) = run0 m (leaps m r (i, pt)).1 (leaps m r (i, pt)).2
  | 0, i, pt => ⟨0, Nat.le_refl _, rfl⟩
  | r + 1, i, pt => by
    obtain ⟨n, h1, h2⟩ := steps_leaps m r (SetTable.leap m i pt).1 (SetTable.leap m i pt).2
    have := runEnd_ge m i
    refine ⟨SetTable.runEnd m i - i + 1 + n, by omega, ?_⟩
    rw [steps_add, steps_leap, h2]
    rfl
theorem leaps_pt (m : Nat) : ∀ (r : Nat) (x : Nat × Nat), (leaps m r x).2 = x.2 / 32 ^ r
  | 0, x => by simp [leaps]
  | r + 1, x => by
    show (leaps m r (SetTable.leap m x.1 x.2)).2 = _
    rw [leaps_pt m r]
    unfold SetTable.leap
    rw [Nat.div_div_eq_div_mul, Nat.pow_succ, Nat.mul_comm]
theorem leaps_zero (m : Nat) : ∀ (r i : Nat), (leaps m r (i, 0)).1 % (m + 1) = g5 r i % (m + 1) ∧ (leaps m r (i, 0)).2 = 0
  | 0, i => ⟨rfl, rfl⟩
  | r + 1, i => by
    show (leaps m r (SetTable.leap m i 0)).1 % (m + 1) = g5 r (5 * i + 1) % (m + 1) ∧ (leaps m r (SetTable.leap m i 0)).2 = 0
    have e : SetTable.leap m i 0 = ((i * 5 + 1 + 0) % (m + 1), 0) := rfl
    rw [e]
    obtain ⟨h1, h2⟩ := leaps_zero m r ((i * 5 + 1 + 0) % (m + 1))
    refine ⟨?_, h2⟩
    rw [h1]
    refine g5_mod _ _ _ _ ?_
    rw [Nat.mod_mod, Nat.add_zero, Nat.mul_comm]
theorem leap_le (m i pt : Nat) : (SetTable.leap m i pt).1 ≤ m := Nat.le_of_lt_succ (Nat.mod_lt _ (Nat.succ_pos _))
theorem leaps_le (m : Nat) : ∀ (r i pt : Nat), i ≤ m → (leaps m r (i, pt)).1 ≤ m
  | 0, i, pt, h => h
  | r + 1, i, pt, _ => leaps_le m r _ _ (leap_le m i pt)
/-- each slot is the start of a run, soon -/
theorem leaps_all {m k : Nat} (hm : m + 1 = 2 ^ k) {i pt e : Nat} (hi : i ≤ m) (hp : pt < 2 ^ 64) (he : e ≤ m) : ∃ r, r ≤ 13 + m ∧ (leaps m r (i, pt)).1 = e := by
  have z : (leaps m 13 (i, pt)).2 = 0 := by
    rw [leaps_pt]
    refine Nat.div_eq_of_lt ?_
    show pt < _
    have : (2 : Nat) ^ 64 ≤ 32 ^ 13 := by decide
    omega
  obtain ⟨r, h1, h2⟩ := g5_all k (leaps m 13 (i, pt)).1 e (by omega)
  refine ⟨13 + r, by omega, ?_⟩
  have e1 : leaps m 13 (i, pt) = ((leaps m 13 (i, pt)).1, 0) := by rw [← z]
  rw [leaps_add, e1]
  obtain ⟨q1, q2⟩ := leaps_zero m r (leaps m 13 (i, pt)).1
  rw [hm, h2] at q1
  have q3 := leaps_le m r (leaps m 13 (i, pt)).1 0 (leaps_le m 13 i pt hi)
  rw [Nat.mod_eq_of_lt (by omega)] at q1
  exact q1
theorem steps_all {m k : Nat} (hm : m + 1 = 2 ^ k) {i pt e : Nat} (hi : i ≤ m) (hp : pt < 2 ^ 64) (he : e ≤ m) : ∃ n, n ≤ 10 * (13 + m) ∧ (steps m n (run0 m i pt)).j = e := by
  obtain ⟨r, h1, h2⟩ := leaps_all hm hi hp he
  obtain ⟨n, h3, h4⟩ := steps_leaps m r i pt
  exact ⟨n, by omega, by rw [h4, h2]; rfl⟩
theorem bits_lt (h : Int) : SetTable.bits h < 2 ^ 64 := by
  unfold SetTable.bits
  omega
def st0 (m : Nat) (h : Int) : Pr := run0 m (SetTable.bits h % (m + 1)) (SetTable.bits h)
theorem start_eq (t : SetTable) (h : Int) : t.probeStart h = st0 t.mask h := rfl
theorem st0_all {m k : Nat} (hm : m + 1 = 2 ^ k) {h : Int} {e : Nat} (he : e ≤ m) : ∃ n, n ≤ 10 * (13 + m) ∧ (steps m n (st0 m h)).j = e :=
  steps_all hm (Nat.le_of_lt_succ (Nat.mod_lt _ (Nat.succ_pos _))) (bits_lt h) he
/-- all that is met is a slot -/
theorem steps_le {m : Nat} : ∀ (n : Nat) {p : Pr}, p.j + p.more ≤ m → (steps m n p).j + (steps m n p).more ≤ m
  | 0, p, h => h
  | n + 1, p, h => by
    refine steps_le n ?_
    unfold adv
    split
    · show p.j + 1 + (p.more - 1) ≤ m
      omega
    · have h1 := leap_le m p.i p.perturb
      have h2 := runEnd_le h1
      have h3 := runEnd_ge m (SetTable.leap m p.i p.perturb).1
      show (SetTable.leap m p.i p.perturb).1 + (SetTable.runEnd m (SetTable.leap m p.i p.perturb).1 - (SetTable.leap m p.i p.perturb).1) ≤ m
      omega
theorem st0_le {m : Nat} {h : Int} (n : Nat) : (steps m n (st0 m h)).j ≤ m := by
  have : (st0 m h).j + (st0 m h).more ≤ m := by
    have h1 : SetTable.bits h % (m + 1) ≤ m := Nat.le_of_lt_succ (Nat.mod_lt _ (Nat.succ_pos _))
    have h2 := runEnd_le h1
    have h3 := runEnd_ge m (SetTable.bits h % (m + 1))
    show SetTable.bits h % (m + 1) + (SetTable.runEnd m (SetTable.bits h % (m + 1)) - SetTable.bits h % (m + 1)) ≤ m
    omega
  have := steps_le n this
  omega
/-- j is reached from h, all ahead of it being taken -/
def Rch (m : Nat) (occ : Nat → Prop) (h : Int) (j : Nat) : Prop := ∃ n, n < 10 * (m + 15) ∧ (steps m n (st0 m h)).j = j ∧ ∀ n', n' < n → occ (steps m n' (st0 m h)).j
theorem Rch.mono {m : Nat} {occ occ' : Nat → Prop} {h : Int} {j : Nat} (r : Rch m occ h j) (k : ∀ x, occ x → occ' x) : Rch m occ' h j := by
  obtain ⟨n, h1, h2, h3⟩ := r
  exact ⟨n, h1, h2, fun n' q => k _ (h3 n' q)⟩
theorem Rch.le {m : Nat} {occ : Nat → Prop} {h : Int} {j : Nat} (r : Rch m occ h j) : j ≤ m := by
  obtain ⟨n, h1, h2, h3⟩ := r
  rw [← h2]
  exact st0_le n
/-- the first free one is reached -/
theorem rch_free {m k : Nat} (hm : m + 1 = 2 ^ k) {occ : Nat → Prop} {h : Int} {e : Nat} (he : e ≤ m) (hf : ¬ occ e) : ∃ j, Rch m occ h j ∧ ¬ occ j := by
  obtain ⟨n, h1, h2⟩ := st0_all (h := h) hm he
  have key : ∀ b, b ≤ n → (∃ j, Rch m occ h j ∧ ¬ occ j) ∨ ∀ n', n' < b → occ (steps m n' (st0 m h)).j := by
    intro b
    induction b with
    | zero => exact fun _ => .inr fun n' q => absurd q (Nat.not_lt_zero _)
    | succ b ih =>
      intro hb
      rcases ih (by omega) with q | q
      · exact .inl q
      · by_cases c : occ (steps m b (st0 m h)).j
        · refine .inr fun n' hn => ?_
          rcases Nat.lt_or_ge n' b with z | z
          · exact q n' z
          · rw [show n' = b from by omega]; exact c
        · exact .inl ⟨_, ⟨b, by omega, rfl, q⟩, c⟩
  rcases key n (Nat.le_refl _) with q | q
  · exact q
  · exact ⟨e, ⟨n, by omega, h2, q⟩, hf⟩
end DL
set_option Elab.async false
set_option linter.all false
set_option maxRecDepth 100000
set_option maxHeartbeats 4000000
/-! ST2: tables in which each element is found. -/
namespace DL
open PySem L2
abbrev Ent := Int × Value
/-- m: the mask; pl: the places taken; es: what lies there -/
structure Tab (m : Nat) (pl : Array Nat) (es : Array Ent) : Prop where
  sz : pl.size = es.size
  ris : Ris pl.toList
  le : ∀ j ∈ pl.toList, j ≤ m
  pw : ∃ k, m + 1 = 2 ^ (k + 3)
  rc : ∀ q ∈ pl.toList.zip es.toList, Rch m (· ∈ pl.toList) q.2.1 q.1
theorem Tab.odd {m : Nat} {pl : Array Nat} {es : Array Ent} (T : Tab m pl es) : m % 2 = 1 := by
  obtain ⟨k, hk⟩ := T.pw
  rw [Nat.pow_add] at hk
  omega
theorem Tab.seven {m : Nat} {pl : Array Nat} {es : Array Ent} (T : Tab m pl es) : 7 ≤ m := by
  obtain ⟨k, hk⟩ := T.pw
  rw [Nat.pow_add] at hk
  have := Nat.two_pow_pos k
  omega
theorem mem_below {xs : Array Nat} (r : Ris xs.toList) {j : Nat} : j ∈ xs.toList ↔ xs[SetTable.below xs j]? = some j := by
  constructor
  · intro h
    obtain ⟨c1, c2, c3⟩ := below_cut r j
    obtain ⟨i, hi⟩ := List.getElem?_of_mem h
    rcases Nat.lt_trichotomy i (SetTable.below xs j) with q | q | q
    · exact absurd (c2 i j hi q) (Nat.lt_irrefl _)
    · rw [← Array.getElem?_toList, ← q]; exact hi
    · exfalso
      have hl : SetTable.below xs j < xs.toList.length := Nat.lt_trans q (List.getElem?_eq_some_iff.mp hi).1
      have e := List.getElem?_eq_getElem hl
      have a1 := c3 _ _ e (Nat.le_refl _)
      have a2 := ris_lt r e hi q
      omega
  · intro h
    rw [← Array.getElem?_toList] at h
    exact List.mem_of_getElem? h
/-- what a slot is, where none is left over -/
theorem slot_mem {t : SetTable} (r : Ris t.place.toList) (d : t.dummies = #[]) {j : Nat} (h : j ∈ t.place.toList) : t.slot j = .live (SetTable.below t.place j) := by
  have e := (mem_below r).mp h
  unfold SetTable.slot
  simp [e]
theorem slot_out {t : SetTable} (r : Ris t.place.toList) (d : t.dummies = #[]) {j : Nat} (h : j ∉ t.place.toList) : t.slot j = .empty := by
  have e : ¬ t.place[SetTable.below t.place j]? = some j := fun z => h ((mem_below r).mpr z)
  unfold SetTable.slot SetTable.has
  rw [d]
  simp [e]
theorem adv_dummy {m : Nat} {p : Pr} : (adv m p).dummy = p.dummy := by
  unfold adv
  split <;> rfl
theorem steps_dummy {m : Nat} {h : Int} : ∀ n, (steps m n (st0 m h)).dummy = none
  | 0 => rfl
  | n + 1 => by rw [steps_snoc, adv_dummy, steps_dummy n]
/-- a search that ends at a free slot -/
theorem go_empty {t : SetTable} (r : Ris t.place.toList) (d : t.dummies = #[]) {hashAt : Nat → Int} {h : Int} {n0 : Nat} (hj : (steps t.mask n0 (st0 t.mask h)).j ∉ t.place.toList)
    (hl : ∀ n, n < n0 → (steps t.mask n (st0 t.mask h)).j ∈ t.place.toList ∧ hashAt (SetTable.below t.place (steps t.mask n (st0 t.mask h)).j) ≠ h) :
    ∀ (k n f : Nat), n + k = n0 → k < f → SetTable.probe.go t hashAt h f (steps t.mask n (st0 t.mask h)) = some (.empty (steps t.mask n0 (st0 t.mask h)).j none)
  | _, _, 0, _, hf => absurd hf (Nat.not_lt_zero _)
  | 0, n, f + 1, hk, hf => by
    have : n = n0 := by omega
    subst this
    rw [SetTable.probe.go, slot_out r d hj]
    simp only [steps_dummy]
  | k + 1, n, f + 1, hk, hf => by
    obtain ⟨l1, l2⟩ := hl n (by omega)
    rw [SetTable.probe.go, slot_mem r d l1]
    simp only
    rw [if_neg (by simpa using l2), adv_eq, ← steps_snoc]
    exact go_empty r d hj hl k (n + 1) f (by omega) (by omega)
/-- a search that finds -/
theorem go_found {t : SetTable} (r : Ris t.place.toList) (d : t.dummies = #[]) {hashAt : Nat → Int} {h : Int} {n0 : Nat} (hj : (steps t.mask n0 (st0 t.mask h)).j ∈ t.place.toList) (he : hashAt (SetTable.below t.place (steps t.mask n0 (st0 t.mask h)).j) = h)
    (hl : ∀ n, n < n0 → (steps t.mask n (st0 t.mask h)).j ∈ t.place.toList ∧ hashAt (SetTable.below t.place (steps t.mask n (st0 t.mask h)).j) ≠ h) :
    ∀ (k n f : Nat), n + k = n0 → k < f → ∃ nx, SetTable.probe.go t hashAt h f (steps t.mask n (st0 t.mask h)) = some (.candidate (steps t.mask n0 (st0 t.mask h)).j (SetTable.below t.place (steps t.mask n0 (st0 t.mask h)).j) nx)
  | _, _, 0, _, hf => absurd hf (Nat.not_lt_zero _)
  | 0, n, f + 1, hk, hf => by
    have : n = n0 := by omega
    subst this
    rw [SetTable.probe.go, slot_mem r d hj]
    simp only
    rw [if_pos (by simpa using he)]
    exact ⟨_, rfl⟩
  | k + 1, n, f + 1, hk, hf => by
    obtain ⟨l1, l2⟩ := hl n (by omega)
    rw [SetTable.probe.go, slot_mem r d l1]
    simp only
    rw [if_neg (by simpa using l2), adv_eq, ← steps_snoc]
    exact go_found r d hj he hl k (n + 1) f (by omega) (by omega)
/-- there is a free slot -/
theorem full_len : ∀ (m : Nat) (l : List Nat), (∀ j, j < m → j ∈ l) → m ≤ l.length
  | 0, l, _ => Nat.zero_le _
  | m + 1, l, h => by
    have hm := h m (by omega)
    have := full_len m (l.erase m) fun j hj => (List.mem_erase_of_ne (by omega)).mpr (h j (by omega))
    rw [List.length_erase_of_mem hm] at this
    have := List.length_pos_of_mem hm
    omega
theorem free_ex {m : Nat} {l : List Nat} (h : l.length ≤ m) : ∃ e, e ≤ m ∧ e ∉ l := by
  refine Classical.byContradiction fun hn => ?_
  have := full_len (m + 1) l fun j hj => Classical.byContradiction fun q => hn ⟨j, by omega, q⟩
  omega
theorem zip_ins {α β : Type} {xs : Array α} {ys : Array β} {p : Nat} {x : α} {y : β} (h : xs.size = ys.size) : (SetTable.insertAt xs p x).toList.zip (SetTable.insertAt ys p y).toList = (xs.toList.take p).zip (ys.toList.take p) ++ (x, y) :: (xs.toList.drop p).zip (ys.toList.drop p) := by
  rw [SetTable.toList_insertAt, SetTable.toList_insertAt, List.zip_append (by simp [h]), List.zip_cons_cons]
theorem mem_zip_take {α β : Type} {xs : List α} {ys : List β} {p : Nat} {q : α × β} (h : q ∈ (xs.take p).zip (ys.take p)) : q ∈ xs.zip ys := by
  unfold List.zip at h ⊢
  rw [← List.take_zipWith] at h
  exact List.mem_of_mem_take h
theorem mem_zip_drop {α β : Type} {xs : List α} {ys : List β} {p : Nat} {q : α × β} (h : q ∈ (xs.drop p).zip (ys.drop p)) : q ∈ xs.zip ys := by
  unfold List.zip at h ⊢
  rw [← List.drop_zipWith] at h
  exact List.mem_of_mem_drop h
theorem mem_ins {α : Type} {xs : Array α} {p : Nat} {x y : α} : y ∈ (SetTable.insertAt xs p x).toList ↔ y = x ∨ y ∈ xs.toList := by
  rw [SetTable.toList_insertAt, List.mem_append, List.mem_cons]
  conv => rhs; rhs; rw [← List.take_append_drop p xs.toList, List.mem_append]
  constructor
  · rintro (h | h | h)
    · exact .inr (.inl h)
    · exact .inl h
    · exact .inr (.inr h)
  · rintro (h | h | h)
    · exact .inr (.inl h)
    · exact .inl h
    · exact .inr (.inr h)
theorem ins_size {α : Type} {xs : Array α} {p : Nat} {x : α} : (SetTable.insertAt xs p x).size = xs.size + 1 := by
  rw [← Array.length_toList, SetTable.toList_insertAt, List.length_append, List.length_cons, List.length_take, List.length_drop, Array.length_toList]
  omega
/-- one more, at a free slot that is reached -/
theorem Tab.put {m : Nat} {pl : Array Nat} {es : Array Ent} (T : Tab m pl es) {h : Int} {v : Value} {j : Nat} (hj : Rch m (· ∈ pl.toList) h j) (hn : j ∉ pl.toList) : Tab m (SetTable.insertAt pl (SetTable.below pl j) j) (SetTable.insertAt es (SetTable.below pl j) (h, v)) := by
  have mono : ∀ x, x ∈ pl.toList → x ∈ (SetTable.insertAt pl (SetTable.below pl j) j).toList := fun x hx => mem_ins.mpr (.inr hx)
  refine ⟨by rw [ins_size, ins_size, T.sz], ris_insert T.ris fun z => hn ((mem_below T.ris).mpr z), fun x hx => ?_, T.pw, fun q hq => ?_⟩
  · rcases mem_ins.mp hx with rfl | hx
    · exact hj.le
    · exact T.le x hx
  · rw [zip_ins T.sz, List.mem_append, List.mem_cons] at hq
    rcases hq with hq | rfl | hq
    · exact (T.rc q (mem_zip_take hq)).mono mono
    · exact hj.mono mono
    · exact (T.rc q (mem_zip_drop hq)).mono mono
end DL
set_option Elab.async false
set_option linter.all false
set_option maxRecDepth 100000
set_option maxHeartbeats 4000000
/-! ST3: all laid anew. -/
namespace DL
open PySem L2
/-- the slots that have an owner -/
abbrev Occ (ow : Array (Option Nat)) (j : Nat) : Prop := ∃ i, ow[j]? = some (some i)
theorem none_iff {ow : Array (Option Nat)} {m j : Nat} (hs : ow.size = m + 1) (hj : j ≤ m) : (ow.getD j (some 0)).isNone = true ↔ ¬ Occ ow j := by
  have hl : j < ow.size := by omega
  unfold Occ
  rw [Array.getD_eq_getD_getElem?, Array.getElem?_eq_getElem hl]
  cases e : ow[j] <;> simp
theorem find_none {n : Nat} {p : Nat → Bool} (h : (List.range n).find? p = none) : ∀ k, k < n → p k = false := fun k hk => by
  have := List.find?_eq_none.mp h k (List.mem_range.mpr hk)
  simpa using this
theorem find_some {n k : Nat} {p : Nat → Bool} (h : (List.range n).find? p = some k) : k < n ∧ p k = true ∧ ∀ k', k' < k → p k' = false := by
  rw [List.find?_range_eq_some] at h
  refine ⟨by simpa using h.2.1, h.1, fun k' hk => ?_⟩
  have := h.2.2 k' hk
  simpa using this
/-- the free slot that is found from a run's start on -/
theorem free_go {ow : Array (Option Nat)} {m : Nat} {h : Int} (hs : ow.size = m + 1) : ∀ (f n i pt : Nat), i ≤ m → steps m n (st0 m h) = run0 m i pt → (∀ n', n' < n → Occ ow (steps m n' (st0 m h)).j) → n + 10 * f ≤ 10 * (m + 15) →
    (∀ j, SetTable.layClean.free m ow f i pt = some j → Rch m (Occ ow) h j ∧ ¬ Occ ow j) ∧
    (SetTable.layClean.free m ow f i pt = none → ∀ r, r < f → Occ ow (leaps m r (i, pt)).1)
  | 0, n, i, pt, _, _, _, _ => ⟨fun j hj => (nomatch hj), fun _ r hr => absurd hr (Nat.not_lt_zero _)⟩
  | f + 1, n, i, pt, hi, hst, hoc, hn => by
    have r1 := runEnd_ge m i
    have r2 := runEnd_le hi
    have pos : ∀ k, k ≤ SetTable.runEnd m i - i → (steps m (n + k) (st0 m h)).j = i + k := fun k hk => by
      rw [steps_add, hst, steps_run m i pt k hk]
    rw [SetTable.layClean.free]
    cases e : (List.range (SetTable.runEnd m i + 1 - i)).find? fun k => (ow.getD (i + k) (some 0)).isNone with
    | some k =>
      obtain ⟨q1, q2, q3⟩ := find_some e
      refine ⟨fun j hj => ?_, fun z => (nomatch z)⟩
      cases hj
      have hk : i + k ≤ m := by omega
      refine ⟨⟨n + k, by omega, pos k (by omega), fun n' hn' => ?_⟩, (none_iff hs hk).mp q2⟩
      rcases Nat.lt_or_ge n' n with c | c
      · exact hoc n' c
      · obtain ⟨k', rfl⟩ : ∃ k', n' = n + k' := ⟨n' - n, by omega⟩
        rw [pos k' (by omega)]
        have := q3 k' (by omega)
        exact Classical.byContradiction fun z => by
          rw [(none_iff hs (by omega)).mpr z] at this
          cases this
    | none =>
      have q := find_none e
      have occ : ∀ k, k ≤ SetTable.runEnd m i - i → Occ ow (i + k) := fun k hk => Classical.byContradiction fun z => by
        have := q k (by omega)
        rw [(none_iff hs (by omega)).mpr z] at this
        cases this
      have st1 : steps m (n + (SetTable.runEnd m i - i + 1)) (st0 m h) = run0 m (SetTable.leap m i pt).1 (SetTable.leap m i pt).2 := by
        rw [steps_add, hst, steps_leap]
      obtain ⟨g1, g2⟩ := free_go (h := h) hs f (n + (SetTable.runEnd m i - i + 1)) (SetTable.leap m i pt).1 (SetTable.leap m i pt).2 (leap_le m i pt) st1 (fun n' hn' => by
        rcases Nat.lt_or_ge n' n with c | c
        · exact hoc n' c
        · obtain ⟨k', rfl⟩ : ∃ k', n' = n + k' := ⟨n' - n, by omega⟩
          rw [pos k' (by omega)]
          exact occ k' (by omega)) (by omega)
      refine ⟨g1, fun z r hr => ?_⟩
      cases r with
      | zero => exact occ 0 (by omega)
      | succ r => exact g2 z r (by omega)
theorem free_ok {ow : Array (Option Nat)} {m k : Nat} (hm : m + 1 = 2 ^ k) {h : Int} (hs : ow.size = m + 1) {e : Nat} (he : e ≤ m) (hf : ¬ Occ ow e) :
    ∃ j, SetTable.layClean.free m ow (SetTable.turns m) (SetTable.bits h % (m + 1)) (SetTable.bits h) = some j ∧ Rch m (Occ ow) h j ∧ ¬ Occ ow j := by
  have hi : SetTable.bits h % (m + 1) ≤ m := Nat.le_of_lt_succ (Nat.mod_lt _ (Nat.succ_pos _))
  obtain ⟨g1, g2⟩ := free_go (h := h) hs (SetTable.turns m) 0 (SetTable.bits h % (m + 1)) (SetTable.bits h) hi rfl (fun _ z => absurd z (Nat.not_lt_zero _)) (by unfold SetTable.turns; omega)
  cases e1 : SetTable.layClean.free m ow (SetTable.turns m) (SetTable.bits h % (m + 1)) (SetTable.bits h) with
  | some j => exact ⟨j, rfl, g1 j e1⟩
  | none =>
    obtain ⟨r, l1, l2⟩ := leaps_all hm hi (bits_lt h) he
    have := g2 e1 r (by unfold SetTable.turns; omega)
    rw [l2] at this
    exact absurd this hf
/-- behind the first so many -/
structure Owd (m : Nat) (hs : List Int) (k : Nat) (ow : Array (Option Nat)) : Prop where
  sz : ow.size = m + 1
  rc : ∀ j i : Nat, ow[j]? = some (some i) → i < k ∧ ∃ h, hs[i]? = some h ∧ Rch m (Occ ow) h j
  all : ∀ i : Nat, i < k → ∃ j : Nat, ow[j]? = some (some i)
  one : ∀ i j j' : Nat, ow[j]? = some (some i) → ow[j']? = some (some i) → j = j'
/-- as many are taken as were laid -/
theorem Owd.free {m : Nat} {hs : List Int} {k : Nat} {ow : Array (Option Nat)} (O : Owd m hs k ow) (hk : k ≤ m) : ∃ e, e ≤ m ∧ ¬ Occ ow e := by
  have ch : ∃ f : Nat → Nat, ∀ i, i < k → ow[f i]? = some (some i) := ⟨fun i => if h : i < k then (O.all i h).choose else 0, fun i h => by
    simp only [h, dif_pos]
    exact (O.all i h).choose_spec⟩
  obtain ⟨f, hf⟩ := ch
  obtain ⟨e, h1, h2⟩ := free_ex (m := m) (l := (List.range k).map f) (by simp; omega)
  refine ⟨e, h1, fun ⟨i, hi⟩ => h2 ?_⟩
  have := (O.rc e i hi).1
  rw [O.one i e (f i) hi (hf i this)]
  exact List.mem_map.mpr ⟨i, List.mem_range.mpr this, rfl⟩
theorem Owd.next {m p : Nat} (hm : m + 1 = 2 ^ p) {hs : List Int} {k : Nat} {ow : Array (Option Nat)} (O : Owd m hs k ow) (hk : k ≤ m) {h : Int} (hh : hs[k]? = some h) :
    ∃ j, SetTable.layClean.free m ow (SetTable.turns m) (SetTable.bits h % (m + 1)) (SetTable.bits h) = some j ∧ Owd m hs (k + 1) (ow.setIfInBounds j (some k)) := by
  obtain ⟨e, h1, h2⟩ := O.free hk
  obtain ⟨j, q1, q2, q3⟩ := free_ok hm (h := h) O.sz h1 h2
  have hj := q2.le
  have hjl : j < ow.size := by rw [O.sz]; omega
  have at_ : ∀ x, (ow.setIfInBounds j (some k))[x]? = if x = j then some (some k) else ow[x]? := fun x => by
    rw [Array.getElem?_setIfInBounds]
    by_cases c : j = x
    · subst c; simp [hjl]
    · rw [if_neg c, if_neg fun z => c z.symm]
  have mono : ∀ x, Occ ow x → Occ (ow.setIfInBounds j (some k)) x := fun x ⟨i, hi⟩ => by
    unfold Occ
    rw [at_]
    split
    · exact ⟨k, rfl⟩
    · exact ⟨i, hi⟩
  refine ⟨j, q1, by simpa using O.sz, fun x i hx => ?_, fun i hi => ?_, fun i x x' hx hx' => ?_⟩
  · rw [at_] at hx
    split at hx
    · rename_i c
      cases hx
      subst c
      exact ⟨by omega, h, hh, q2.mono mono⟩
    · obtain ⟨a1, h', a2, a3⟩ := O.rc x i hx
      exact ⟨by omega, h', a2, a3.mono mono⟩
  · rcases Nat.lt_or_ge i k with c | c
    · obtain ⟨x, hx⟩ := O.all i c
      refine ⟨x, ?_⟩
      rw [at_, if_neg]
      · exact hx
      · rintro rfl
        exact q3 ⟨i, hx⟩
    · have : i = k := by omega
      subst this
      exact ⟨j, by rw [at_, if_pos rfl]⟩
  · rw [at_] at hx hx'
    by_cases c : x = j <;> by_cases c' : x' = j
    · rw [c, c']
    · rw [if_pos c] at hx; rw [if_neg c'] at hx'
      cases hx
      have := (O.rc _ _ hx').1
      omega
    · rw [if_neg c] at hx; rw [if_pos c'] at hx'
      cases hx'
      have := (O.rc _ _ hx).1
      omega
    · rw [if_neg c] at hx; rw [if_neg c'] at hx'
      exact O.one i x x' hx hx'
theorem owd_zero {m : Nat} {hs : List Int} : Owd m hs 0 (Array.replicate (m + 1) none) := by
  have e : ∀ j i : Nat, (Array.replicate (m + 1) (none : Option Nat))[j]? = some (some i) → False := fun j i h => by
    rw [Array.getElem?_replicate] at h
    split at h <;> simp at h
  exact ⟨by simp, fun j i h => (e j i h).elim, fun i h => absurd h (Nat.not_lt_zero _), fun i j j' h => (e j i h).elim⟩
end DL
set_option Elab.async false
set_option linter.all false
set_option maxRecDepth 100000
set_option maxHeartbeats 4000000
/-! ST4: a table laid anew finds each; a table to which one is added. -/
namespace DL
open PySem L2
abbrev layStep (m : Nat) : Option (Array (Option Nat) × Nat) → Int → Option (Array (Option Nat) × Nat) := fun acc h => do
    let (owner, k) ← acc
    let j ← SetTable.layClean.free m owner (SetTable.turns m) (SetTable.bits h % (m + 1)) (SetTable.bits h)
    pure (owner.setIfInBounds j (some k), k + 1)
theorem layClean_eq (m : Nat) (hs : Array Int) : SetTable.layClean m hs = (hs.toList.foldl (layStep m) (some (Array.replicate (m + 1) none, 0))).map (·.1) := by
  unfold SetTable.layClean
  rw [Array.foldl_toList]
theorem lay_fold {m p : Nat} (hm : m + 1 = 2 ^ p) {hs : List Int} (hn : hs.length ≤ m) : ∀ (r : List Int) (k : Nat) (ow : Array (Option Nat)), Owd m hs k ow → r = hs.drop k → k ≤ hs.length → ∃ ow', r.foldl (layStep m) (some (ow, k)) = some (ow', hs.length) ∧ Owd m hs hs.length ow'
  | [], k, ow, O, hr, hk => by
    have : hs.length = k := by
      have := congrArg List.length hr
      rw [List.length_drop, List.length_nil] at this
      omega
    rw [this]
    exact ⟨ow, rfl, this ▸ O⟩
  | h :: r, k, ow, O, hr, hk => by
    have hl : k < hs.length := by
      have := congrArg List.length hr
      rw [List.length_drop, List.length_cons] at this
      omega
    rw [List.drop_eq_getElem_cons hl] at hr
    obtain ⟨e1, e2⟩ := List.cons.inj hr
    obtain ⟨j, q1, q2⟩ := O.next hm (by omega) (h := h) (by rw [e1]; exact List.getElem?_eq_getElem hl)
    have : layStep m (some (ow, k)) h = some (ow.setIfInBounds j (some k), k + 1) := by
      show (SetTable.layClean.free m ow (SetTable.turns m) (SetTable.bits h % (m + 1)) (SetTable.bits h) >>= fun j => pure (ow.setIfInBounds j (some k), k + 1)) = _
      rw [q1]
      rfl
    rw [List.foldl_cons, this]
    exact lay_fold hm hn r (k + 1) _ q2 e2 (by omega)
/-- what is laid, with its slots -/
abbrev liveL (m : Nat) (ow : Array (Option Nat)) : List (Nat × Nat) := (List.range (m + 1)).filterMap fun j => (ow.getD j none).map (j, ·)
theorem live_mem {m : Nat} {ow : Array (Option Nat)} {j i : Nat} : (j, i) ∈ liveL m ow ↔ j ≤ m ∧ ow[j]? = some (some i) := by
  simp only [liveL, List.mem_filterMap, List.mem_range, Option.map_eq_some_iff, Prod.mk.injEq]
  constructor
  · rintro ⟨x, h1, y, h2, rfl, rfl⟩
    refine ⟨by omega, ?_⟩
    rw [Array.getD_eq_getD_getElem?] at h2
    cases e : ow[x]? with
    | none => rw [e] at h2; cases h2
    | some o => rw [e] at h2; simp at h2; rw [h2]
  · rintro ⟨h1, h2⟩
    refine ⟨j, by omega, i, ?_, rfl, rfl⟩
    rw [Array.getD_eq_getD_getElem?, h2]
    rfl
theorem live_order {m n : Nat} {hs : List Int} {ow : Array (Option Nat)} (O : Owd m hs n ow) : ((liveL m ow).map (·.2)).Perm (List.range n) := by
  have r := (ris_live (fun j => ow.getD j none) (List.range (m + 1)) (by unfold Ris; exact List.pairwise_lt_range)).1
  have nd : ((liveL m ow).map (·.2)).Nodup := by
    unfold Ris at r
    rw [List.pairwise_map] at r
    unfold List.Nodup
    rw [List.pairwise_map]
    refine r.imp_of_mem fun {a b} ha hb hab => ?_
    intro e
    obtain ⟨a1, a2⟩ := a
    obtain ⟨b1, b2⟩ := b
    have e : a2 = b2 := e
    subst e
    have := O.one a2 a1 b1 (live_mem.mp ha).2 (live_mem.mp hb).2
    have : a1 < b1 := hab
    omega
  rw [List.perm_ext_iff_of_nodup nd List.nodup_range]
  intro i
  rw [List.mem_range, List.mem_map]
  constructor
  · rintro ⟨⟨j, i'⟩, h1, rfl⟩
    exact (O.rc j i' (live_mem.mp h1).2).1
  · intro hi
    obtain ⟨j, hj⟩ := O.all i hi
    have hjl : j < ow.size := (Array.getElem?_eq_some_iff.mp hj).1
    rw [O.sz] at hjl
    exact ⟨(j, i), live_mem.mpr ⟨by omega, hj⟩, rfl⟩
theorem zip_maps {α β : Type} (l : List (Nat × Nat)) (es : Array β) : ∀ q, q ∈ (l.map (·.1)).zip ((l.map (·.2)).filterMap (es[·]?)) → (∀ p ∈ l, p.2 < es.size) → ∃ p ∈ l, q.1 = p.1 ∧ es[p.2]? = some q.2 := by
  induction l with
  | nil => intro q hq; simp at hq
  | cons p l ih =>
    intro q hq hl
    have hp := hl p (by simp)
    have e : es[p.2]? = some es[p.2] := Array.getElem?_eq_getElem hp
    rw [List.map_cons, List.map_cons, List.filterMap_cons_some e, List.zip_cons_cons, List.mem_cons] at hq
    rcases hq with rfl | hq
    · exact ⟨p, by simp, rfl, e⟩
    · obtain ⟨p', h1, h2⟩ := ih q hq fun x hx => hl x (by simp [hx])
      exact ⟨p', by simp [h1], h2⟩
/-- the hashes of what lies there -/
abbrev hsOf (es : Array Ent) : Array Int := es.map (·.1)
theorem laid_ok {m : Nat} (hm : ∃ k, m + 1 = 2 ^ (k + 3)) {es : Array Ent} (hn : es.size ≤ m) (fi mv : Nat) (ld pn : Bool) :
    ∃ pl order, SetTable.laid m fi mv ld pn (hsOf es) = some ({ mask := m, place := pl, dummies := #[], finger := fi, led := ld, moves := mv, plain := pn }, order) ∧ order.toList.Perm (List.range es.size) ∧ Tab m pl (order.filterMap (es[·]?)) := by
  obtain ⟨k, hk⟩ := hm
  have hl : (hsOf es).toList.length = es.size := by simp
  obtain ⟨ow, h1, h2⟩ := lay_fold hk (hs := (hsOf es).toList) (by rw [hl]; exact hn) _ 0 _ owd_zero rfl (Nat.zero_le _)
  have h1 : (hsOf es).toList.foldl (layStep m) (some (Array.replicate (m + 1) none, 0)) = some (ow, (hsOf es).toList.length) := h1
  have pm := live_order h2
  rw [hl] at pm h2
  refine ⟨((liveL m ow).map (·.1)).toArray, ((liveL m ow).map (·.2)).toArray, ?_, by simpa using pm, ?_⟩
  · unfold SetTable.laid
    rw [layClean_eq, h1]
    rfl
  · have lt : ∀ p ∈ liveL m ow, p.2 < es.size := fun p hp => (h2.rc p.1 p.2 (live_mem.mp hp).2).1
    have r := (ris_live (fun j => ow.getD j none) (List.range (m + 1)) (by unfold Ris; exact List.pairwise_lt_range)).1
    have ex : (((liveL m ow).map (·.2)).toArray.filterMap (es[·]?)).toList = ((liveL m ow).map (·.2)).filterMap (es[·]?) := by rw [Array.toList_filterMap]
    have ln : (((liveL m ow).map (·.2)).toArray.filterMap (es[·]?)).size = es.size := by
      rw [← Array.length_toList, ex, (pm.filterMap _).length_eq, filterMap_getElem?_range, Array.length_toList]
    refine ⟨?_, r, fun j hj => ?_, ⟨k, hk⟩, fun q hq => ?_⟩
    · rw [ln]
      have := pm.length_eq
      simpa using this
    · have hj : j ∈ (liveL m ow).map (·.1) := hj
      obtain ⟨p, hp, rfl⟩ := List.mem_map.mp hj
      exact (live_mem.mp hp).1
    · rw [ex] at hq
      obtain ⟨p, hp, e1, e2⟩ := zip_maps (α := Nat) (liveL m ow) es q hq lt
      obtain ⟨_, h, q1, q2⟩ := h2.rc p.1 p.2 (live_mem.mp hp).2
      have : h = q.2.1 := by
        rw [Array.getElem?_toList, Array.getElem?_map, e2] at q1
        exact (Option.some.inj q1).symm
      rw [← this, e1]
      refine q2.mono fun x ⟨i, hi⟩ => ?_
      have hx : x ≤ m := by
        have := (Array.getElem?_eq_some_iff.mp hi).1
        rw [h2.sz] at this
        omega
      show x ∈ (liveL m ow).map (·.1)
      exact List.mem_map.mpr ⟨(x, i), live_mem.mpr ⟨hx, hi⟩, rfl⟩
theorem above_go (n : Nat) : ∀ (f k : Nat), n < 2 ^ (k + f) → ∃ k', k ≤ k' ∧ SetTable.sizeAbove.go n f (2 ^ k) = 2 ^ k' ∧ n < 2 ^ k' ∧ (2 ^ k' ≤ 2 * n ∨ k' = k)
  | 0, k, h => ⟨k, Nat.le_refl _, rfl, h, .inr rfl⟩
  | f + 1, k, h => by
    rw [SetTable.sizeAbove.go]
    split
    · rename_i c
      rw [show 2 ^ k * 2 = 2 ^ (k + 1) from (Nat.pow_succ 2 k).symm]
      obtain ⟨k', h1, h2, h3, h4⟩ := above_go n f (k + 1) (by rw [show k + 1 + f = k + (f + 1) from by omega]; exact h)
      refine ⟨k', by omega, h2, h3, ?_⟩
      rcases h4 with h4 | h4
      · exact .inl h4
      · exact .inl (by rw [h4, Nat.pow_succ]; omega)
    · exact ⟨k, Nat.le_refl _, rfl, by omega, .inr rfl⟩
theorem above_ok {n : Nat} (h : n < 2 ^ 60) : ∃ k, SetTable.sizeAbove n = 2 ^ (k + 3) ∧ n < SetTable.sizeAbove n ∧ SetTable.sizeAbove n ≤ 2 * n + 8 := by
  obtain ⟨k', h1, h2, h3, h4⟩ := above_go n 64 3 (Nat.lt_of_lt_of_le h (Nat.pow_le_pow_right (by omega) (by omega)))
  have e : SetTable.sizeAbove n = 2 ^ k' := h2
  refine ⟨k' - 3, by rw [e, show k' - 3 + 3 = k' from by omega], by rw [e]; exact h3, ?_⟩
  rw [e]
  rcases h4 with h4 | h4
  · omega
  · rw [h4]; omega
/-- the entry at a place -/
theorem tab_at {m : Nat} {pl : Array Nat} {es : Array Ent} (T : Tab m pl es) {j : Nat} (h : j ∈ pl.toList) : ∃ e, es[SetTable.below pl j]? = some e ∧ (j, e) ∈ pl.toList.zip es.toList := by
  have e1 := (mem_below T.ris).mp h
  have hl := (Array.getElem?_eq_some_iff.mp e1).1
  have hl2 : SetTable.below pl j < es.size := by rw [← T.sz]; exact hl
  refine ⟨_, Array.getElem?_eq_getElem hl2, List.mem_of_getElem? (i := SetTable.below pl j) ?_⟩
  rw [List.getElem?_zip_eq_some]
  exact ⟨by rw [Array.getElem?_toList]; exact e1, by rw [Array.getElem?_toList]; exact Array.getElem?_eq_getElem hl2⟩
end DL
set_option Elab.async false
set_option linter.all false
set_option maxRecDepth 100000
set_option maxHeartbeats 4000000
/-! ST5: one is looked for, one is added, in a table in which each is found. -/
namespace DL
open PySem L2
theorem Rch.least {m : Nat} {occ : Nat → Prop} {h : Int} {j : Nat} (r : Rch m occ h j) : ∃ n, n < 10 * (m + 15) ∧ (steps m n (st0 m h)).j = j ∧ ∀ n', n' < n → occ (steps m n' (st0 m h)).j ∧ (steps m n' (st0 m h)).j ≠ j := by
  obtain ⟨n, h1, h2, h3⟩ := r
  have key : ∀ b n, n ≤ b → n < 10 * (m + 15) → (steps m n (st0 m h)).j = j → (∀ n', n' < n → occ (steps m n' (st0 m h)).j) → ∃ n, n < 10 * (m + 15) ∧ (steps m n (st0 m h)).j = j ∧ ∀ n', n' < n → occ (steps m n' (st0 m h)).j ∧ (steps m n' (st0 m h)).j ≠ j := by
    intro b
    induction b with
    | zero =>
      intro n hb a1 a2 a3
      exact ⟨n, a1, a2, fun n' hn => by omega⟩
    | succ b ih =>
      intro n hb a1 a2 a3
      by_cases c : ∃ n', n' < n ∧ (steps m n' (st0 m h)).j = j
      · obtain ⟨n', c1, c2⟩ := c
        exact ih n' (by omega) (by omega) c2 fun x hx => a3 x (by omega)
      · exact ⟨n, a1, a2, fun n' hn => ⟨a3 n' hn, fun z => c ⟨n', hn, z⟩⟩⟩
  exact key n n (Nat.le_refl _) h1 h2 h3
theorem probe_new {t : SetTable} {es : Array Ent} (T : Tab t.mask t.place es) (d : t.dummies = #[]) {h : Int} {hashAt : Nat → Int} (hne : ∀ j ∈ t.place.toList, hashAt (SetTable.below t.place j) ≠ h) (hn : es.size ≤ t.mask) :
    ∃ j, Rch t.mask (· ∈ t.place.toList) h j ∧ j ∉ t.place.toList ∧ t.probe hashAt h (t.probeStart h) = some (.empty j none) := by
  obtain ⟨k, hk⟩ := T.pw
  obtain ⟨e, h1, h2⟩ := free_ex (m := t.mask) (l := t.place.toList) (by rw [Array.length_toList, T.sz]; exact hn)
  obtain ⟨j, r, q⟩ := rch_free hk (occ := (· ∈ t.place.toList)) (h := h) h1 h2
  refine ⟨j, r, q, ?_⟩
  obtain ⟨n, a1, a2, a3⟩ := r
  have := go_empty T.ris d (hashAt := hashAt) (h := h) (n0 := n) (by rw [a2]; exact q) (fun n' hn' => ⟨a3 n' hn', hne _ (a3 n' hn')⟩) n 0 (10 * SetTable.turns t.mask) (by omega) (by unfold SetTable.turns; omega)
  rw [a2] at this
  exact this
theorem probe_old {t : SetTable} {es : Array Ent} (T : Tab t.mask t.place es) (d : t.dummies = #[]) {hashAt : Nat → Int} {j : Nat} {e : Ent} (he : (j, e) ∈ t.place.toList.zip es.toList) (hat : ∀ j e, (j, e) ∈ t.place.toList.zip es.toList → hashAt (SetTable.below t.place j) = e.1)
    (one : ∀ q ∈ t.place.toList.zip es.toList, q.2.1 = e.1 → q.1 = j) : ∃ nx, t.probe hashAt e.1 (t.probeStart e.1) = some (.candidate j (SetTable.below t.place j) nx) := by
  obtain ⟨n, a1, a2, a3⟩ := (T.rc _ he).least
  have hj : j ∈ t.place.toList := (List.of_mem_zip he).1
  obtain ⟨nx, q⟩ := go_found T.ris d (hashAt := hashAt) (h := e.1) (n0 := n) (by rw [a2]; exact hj) (by rw [a2]; exact hat j e he) (fun n' hn' => by
    obtain ⟨b1, b2⟩ := a3 n' hn'
    refine ⟨b1, fun z => b2 ?_⟩
    obtain ⟨e', q1, q2⟩ := tab_at T b1
    rw [hat _ _ q2] at z
    exact one _ q2 z) n 0 (10 * SetTable.turns t.mask) (by omega) (by unfold SetTable.turns; omega)
  rw [a2] at q
  exact ⟨nx, q⟩
/-- a table with one place more -/
abbrev putT (t : SetTable) (j : Nat) : SetTable := { t with place := SetTable.insertAt t.place (SetTable.below t.place j) j }
theorem put_eq {t : SetTable} (d : t.dummies = #[]) (j : Nat) : t.put j = (putT t j, SetTable.below t.place j) := by
  unfold SetTable.put
  have : SetTable.has t.dummies j = false := by
    rw [d]
    unfold SetTable.has
    simp
  simp only [this, Bool.false_eq_true, if_false]
theorem fits_tab {t : SetTable} {es : Array Ent} (T : Tab t.mask t.place es) (d : t.dummies = #[]) (hn : es.size ≤ t.mask) : t.fits es.size = true := by
  unfold SetTable.fits SetTable.fill
  rw [d, T.sz]
  simpa using hn
theorem layNew_tab {t : SetTable} {es : Array Ent} (T : Tab t.mask t.place es) (d : t.dummies = #[]) (hn : es.size + 1 ≤ t.mask) (h : Int) (x : Value) :
    ∃ j, layNew t es h x = (SetTable.insertAt es (SetTable.below t.place j) (h, x), putT t j, false, false) ∧ Tab t.mask (putT t j).place (SetTable.insertAt es (SetTable.below t.place j) (h, x)) := by
  obtain ⟨j, r, q, e⟩ := probe_new T d (h := h) (hashAt := fun _ => h + 1) (fun _ _ => by omega) (by omega)
  have T2 := T.put (v := x) r q
  refine ⟨j, ?_, T2⟩
  have fs : t.freeSlot h = some (j, false) := by
    unfold SetTable.freeSlot
    rw [e]
    rfl
  have sz : (SetTable.insertAt es (SetTable.below t.place j) (h, x)).size = es.size + 1 := ins_size
  have ft : (putT t j).fits (SetTable.insertAt es (SetTable.below t.place j) (h, x)).size = true := fits_tab (t := putT t j) T2 d (by rw [sz]; exact hn)
  unfold layNew
  rw [fs]
  simp only [put_eq d]
  unfold SetTable.orStandIn
  rw [ft]
  simp
theorem relaid_tab {t : SetTable} {es : Array Ent} {wanted : Nat} (hw : wanted < 2 ^ 60) (hn : es.size ≤ wanted) :
    ∃ t' order, t.relaid (hsOf es) wanted = some (t', order) ∧ t'.mask = SetTable.sizeAbove wanted - 1 ∧ t'.dummies = #[] ∧ t'.led = t.led ∧ t'.plain = t.plain ∧ order.toList.Perm (List.range es.size) ∧ Tab t'.mask t'.place (order.filterMap (es[·]?)) := by
  obtain ⟨k, h1, h2, h3⟩ := above_ok hw
  obtain ⟨pl, order, e, p, T⟩ := laid_ok (m := SetTable.sizeAbove wanted - 1) ⟨k, by omega⟩ (es := es) (by omega) t.finger (t.movedTo (SetTable.sizeAbove wanted - 1)) t.led t.plain
  exact ⟨_, order, e, rfl, rfl, rfl, rfl, p, T⟩
theorem reorder_perm {es : Array Ent} {order : Array Nat} (p : order.toList.Perm (List.range es.size)) : (order.filterMap (es[·]?)).toList.Perm es.toList := by
  rw [Array.toList_filterMap]
  exact (p.filterMap _).trans (by rw [filterMap_getElem?_range])
theorem reorder_size {es : Array Ent} {order : Array Nat} (p : order.toList.Perm (List.range es.size)) : (order.filterMap (es[·]?)).size = es.size := by
  rw [← Array.length_toList, (reorder_perm p).length_eq, Array.length_toList]
theorem relayAll_tab {t : SetTable} {es : Array Ent} {wanted : Nat} (hw : wanted < 2 ^ 60) (hn : es.size ≤ wanted) :
    ∃ t' es', relayAll t es wanted = (es', t', false) ∧ t'.mask = SetTable.sizeAbove wanted - 1 ∧ t'.dummies = #[] ∧ t'.led = t.led ∧ t'.plain = t.plain ∧ es'.toList.Perm es.toList ∧ Tab t'.mask t'.place es' := by
  obtain ⟨t', order, e, h1, h2, h3, h4, p, T⟩ := relaid_tab (t := t) hw hn
  refine ⟨t', _, ?_, h1, h2, h3, h4, reorder_perm p, T⟩
  obtain ⟨k, k1, k2, k3⟩ := above_ok hw
  have sz := reorder_size p
  have ft : t'.fits (order.filterMap (es[·]?)).size = true := fits_tab T h2 (by rw [sz, h1]; omega)
  have cv : coversAll order es.size = true := List.isPerm_iff.mpr p
  unfold relayAll
  rw [e]
  simp only [cv, ft, Bool.and_self, if_true]
theorem hash_self {k : Int} (h : 0 ≤ k ∧ k < 2 ^ 60) : hashInt k = k := by
  have e : rawHash k = k := by
    unfold rawHash
    simp only
    rw [if_neg (show ¬ k < 0 by omega)]
    have : ((k.natAbs : Nat) : Int) % ((2 ^ 61 - 1 : Nat) : Int) = k := by
      rw [← Int.natCast_emod, Nat.mod_eq_of_lt (by omega)]
      omega
    rw [this]
    rw [if_neg]
    simp
    omega
  unfold hashInt
  rw [e, if_neg]
  simp
  omega
end DL
set_option Elab.async false
set_option linter.all false
set_option maxRecDepth 100000
set_option maxHeartbeats 4000000
/-! ST6: s.add(i) of any number of ints. -/
namespace DL
open PySem PySem.Spec PyProof.Rows L2
def GoodN (e : Ent) : Prop := ∃ (k : Int) (tk : Tok), (0 ≤ k ∧ k < 2 ^ 60) ∧ e.2 = Value.int k tk ∧ e.1 = k
theorem GoodN.good {e : Ent} (h : GoodN e) : GoodE e := by
  obtain ⟨k, tk, h1, h2, h3⟩ := h
  exact ⟨k, tk, h2, by rw [h3]; exact (hash_self h1).symm⟩
theorem GoodN.key {e : Ent} (h : GoodN e) : keyOf e = e.1 := by
  obtain ⟨k, tk, h1, h2, h3⟩ := h
  unfold keyOf
  rw [h2, h3]
/-- what such a set is: the entries, the table -/
structure TabS (w : World) (es : Array Ent) (t : SetTable) (S : Int → Bool) (n : Nat) : Prop where
  good : ∀ e ∈ es.toList, GoodN e
  nodup : (es.toList.map keyOf).Nodup
  mem : ∀ k, S k = true ↔ k ∈ es.toList.map keyOf
  sz : es.size = n
  tab : Tab t.mask t.place es
  dum : t.dummies = #[]
  room : es.size * 5 < t.mask * 3
  led : w.params.followText "set-order" = true ∨ t.led = true
  pln : t.plain = true
def SetG (w : World) (h : Heap) (a : Addr) (S : Int → Bool) (n : Nat) : Prop := ∃ o es ep t, h.get? a = some o ∧ o.ExactSet ∧ o.data = .set es ep t ∧ TabS w es t S n
section
variable {w : World} {h h' : Heap} {a : Addr} {S : Int → Bool} {n : Nat}
theorem SetG.at (R : SetG w h a S n) (k : ∀ o, h.get? a = some o → h'.get? a = some o) : SetG w h' a S n := by
  obtain ⟨o, es, ep, t, ho, r⟩ := R
  exact ⟨o, es, ep, t, k o ho, r⟩
theorem SetG.congr {S' : Int → Bool} (R : SetG w h a S n) (e : ∀ k, S' k = S k) : SetG w h a S' n := by
  rw [show S' = S from funext e]
  exact R
theorem TabS.fits {es : Array Ent} {t : SetTable} (T : TabS w es t S n) : t.fits es.size = true := fits_tab T.tab T.dum (by have := T.room; omega)
theorem TabS.hashes {es : Array Ent} {t : SetTable} (T : TabS w es t S n) : es.toList.map keyOf = es.toList.map (·.1) := List.map_congr_left fun e he => (T.good e he).key
/-- the place of an entry is one -/
theorem TabS.one {es : Array Ent} {t : SetTable} (T : TabS w es t S n) {q r : Nat × Ent} (hq : q ∈ t.place.toList.zip es.toList) (hr : r ∈ t.place.toList.zip es.toList) (e : q.2.1 = r.2.1) : q.1 = r.1 := by
  obtain ⟨i, hi⟩ := List.getElem?_of_mem hq
  obtain ⟨j, hj⟩ := List.getElem?_of_mem hr
  rw [List.getElem?_zip_eq_some] at hi hj
  have nd := T.nodup
  rw [T.hashes] at nd
  have h1 : (es.toList.map (·.1))[i]? = some q.2.1 := by rw [List.getElem?_map, hi.2]; rfl
  have h2 : (es.toList.map (·.1))[j]? = some q.2.1 := by rw [List.getElem?_map, hj.2, e]; rfl
  have hl := (List.getElem?_eq_some_iff.mp h1).1
  have ij : i = j := (List.getElem?_inj hl nd).mp (h1.trans h2.symm)
  subst ij
  have := hi.1.symm.trans hj.1
  exact Option.some.inj this
/-- one that is not there is added -/
theorem TabS.put {es : Array Ent} {t : SetTable} (T : TabS w es t S n) {k : Int} {tk : Tok} (hk : 0 ≤ k ∧ k < 2 ^ 60) (hS : S k = false) {es1 : Array Ent} {t1 : SetTable} (pm : es1.toList.Perm ((k, Value.int k tk) :: es.toList)) (tb : Tab t1.mask t1.place es1) (dm : t1.dummies = #[]) (rm : es1.size * 5 < t1.mask * 3) (ld : t1.led = t.led ∧ t1.plain = t.plain) :
    TabS w es1 t1 (fun j => S j || decide (j = k)) (n + 1) := by
  have hnk : k ∉ es.toList.map keyOf := fun z => by
    have := (T.mem k).mpr z
    rw [hS] at this
    cases this
  have pk : (es1.toList.map keyOf).Perm (k :: es.toList.map keyOf) := pm.map keyOf
  refine ⟨fun e he => ?_, pk.nodup_iff.mpr (List.nodup_cons.mpr ⟨hnk, T.nodup⟩), fun i => ?_, ?_, tb, dm, rm, T.led.imp id (fun z => by rw [ld.1]; exact z), ld.2.trans T.pln⟩
  · rcases List.mem_cons.mp (pm.mem_iff.mp he) with z | z
    · rw [z]; exact ⟨k, tk, hk, rfl, rfl⟩
    · exact T.good e z
  · rw [Bool.or_eq_true, decide_eq_true_eq, T.mem i, pk.mem_iff, List.mem_cons]
    exact Or.comm
  · have := pm.length_eq
    rw [List.length_cons, Array.length_toList, Array.length_toList, T.sz] at this
    exact this
theorem ins_perm {es : Array Ent} {p : Nat} {x : Ent} : (SetTable.insertAt es p x).toList.Perm (x :: es.toList) := by
  have := SetTable.insertAt_perm es p x
  rw [Array.toList_push] at this
  exact this.trans (List.perm_append_singleton _ _)
end
section
variable {P : Program} {w : World} {A : Around} {E : Value → Shared → Prop} {s : Shared} {a : Addr} {S : Int → Bool} {n : Nat}
theorem at_store {h : Heap} {a : Addr} {o : Obj} {es es' : Array Ent} {ep : Nat} {t t' : SetTable} (ho : h.get? a = some o) (hd : o.data = .set es ep t) :
    (h.update a (Obj.putSet es' t')).get? a = some { o with data := .set es' (ep + 1) t' } := store_at ho hd
theorem line_of {n : Nat} (h : n ≤ 20000) : n ≤ sizeLine := Nat.le_trans h (by decide)
theorem grown_eq {n : Nat} (h : n ≤ 20000) : SetTable.grown n = n * 4 := by
  unfold SetTable.grown
  rw [if_neg (by omega)]
/-- the numbers behind a growing -/
theorem room_new {m n : Nat} (h : n ≤ 20000) (hm : m = SetTable.sizeAbove (n * 4) - 1) : n * 5 < m * 3 ∨ n = 0 := by
  obtain ⟨k, h1, h2, h3⟩ := above_ok (n := n * 4) (by omega)
  omega
theorem fill_eq {t : SetTable} {es : Array Ent} (T : Tab t.mask t.place es) (d : t.dummies = #[]) : t.fill = es.size := by
  unfold SetTable.fill
  rw [d, T.sz]
  rfl
theorem full_iff {t : SetTable} {es : Array Ent} (T : Tab t.mask t.place es) (d : t.dummies = #[]) : t.tooFull = decide (es.size * 5 ≥ t.mask * 3) := by
  unfold SetTable.tooFull
  rw [fill_eq T d]
/-- the end of an adding: laid anew where it is too full -/
theorem add_tail_scan {o : Obj} {es : Array Ent} {ep : Nat} {t : SetTable} (ho : s.heap.get? a = some o) (hex : o.ExactSet) (hd : o.data = .set es ep t) (T : TabS w es t S n) {k : Int} {tk : Tok} (hk : 0 ≤ k ∧ k < 2 ^ 60) (hS : S k = false)
    {es1 : Array Ent} {t1 : SetTable} (hn : n + 1 ≤ 20000) (pm : es1.toList.Perm ((k, Value.int k tk) :: es.toList)) (tb : Tab t1.mask t1.place es1) (dm : t1.dummies = #[]) (ld : t1.led = t.led ∧ t1.plain = t.plain) {f : Sem Unit} (hf : (relayAll t1 es1 (SetTable.grown es1.size)).2.2 = false → f = pure ()) {R : Option Bool → Shared → Prop}
    (hR : ∀ h', Heap.SameBut a s.heap h' → SetG w h' a (fun j => S j || decide (j = k)) (n + 1) → R (some true) { s with heap := h' }) :
    wpAny (model P w) A (storeSet a es1 t1 >>= fun _ => if (!false && t1.tooFull) = true then (f >>= fun _ => storeSet a (relayAll t1 es1 (SetTable.grown es1.size)).1 (relayAll t1 es1 (SetTable.grown es1.size)).2.1 >>= fun _ => pure (some true)) else pure (some true)) R E s := by
  have sz : es1.size = n + 1 := by
    have := pm.length_eq
    rw [List.length_cons, Array.length_toList, Array.length_toList, T.sz] at this
    exact this
  refine wpAny_bind (wpAny_storeSet_of ho hd ?_ (line_of (by omega)))
  have ho1 := at_store (es' := es1) (t' := t1) ho hd
  have sb1 := Heap.SameBut.update s.heap a (Obj.putSet es1 t1)
  rw [full_iff tb dm]
  by_cases c : es1.size * 5 ≥ t1.mask * 3
  · rw [if_pos (by simpa using c)]
    obtain ⟨t2, es2, e, m1, m2, m3, m4, m5, m6⟩ := relayAll_tab (t := t1) (es := es1) (wanted := SetTable.grown es1.size) (by rw [grown_eq (by omega)]; omega) (by rw [grown_eq (by omega)]; omega)
    rw [hf (by rw [e])]
    rw [e]
    dsimp only
    refine wpAny_bind (wpAny_pure ?_)
    have sz2 : es2.size = n + 1 := by rw [← Array.length_toList, m5.length_eq, Array.length_toList, sz]
    refine wpAny_bind (wpAny_storeSet_of ho1 rfl ?_ (line_of (by omega)))
    have ho2 := at_store (es' := es2) (t' := t2) ho1 rfl
    rw [grown_eq (by omega)] at m1
    refine wpAny_pure (hR _ (sb1.trans (Heap.SameBut.update _ a _)) ⟨_, es2, _, t2, ho2, hex, rfl, T.put hk hS (m5.trans pm) m6 m2 ?_ ⟨m3.trans ld.1, m4.trans ld.2⟩⟩)
    have := room_new (m := t2.mask) (n := es1.size) (by omega) m1
    omega
  · rw [if_neg (by simpa using c)]
    exact wpAny_pure (hR _ sb1 ⟨_, es1, _, t1, ho1, hex, rfl, T.put hk hS pm tb dm (by omega) ld⟩)
end
end DL
set_option Elab.async false
set_option linter.all false
set_option maxRecDepth 100000
set_option maxHeartbeats 4000000
/-! ST7: s.add(i), both roads. -/
namespace DL
open PySem PySem.Spec PyProof.Rows L2
theorem zip_below {m : Nat} {pl : Array Nat} {es : Array Ent} (T : Tab m pl es) {j : Nat} {e : Ent} (h : (j, e) ∈ pl.toList.zip es.toList) : es[SetTable.below pl j]? = some e := by
  obtain ⟨i, hi⟩ := List.getElem?_of_mem h
  rw [List.getElem?_zip_eq_some] at hi
  have e1 := (mem_below T.ris).mp (List.mem_of_getElem? hi.1)
  rw [← Array.getElem?_toList] at e1
  have : i = SetTable.below pl j := by
    rcases Nat.lt_trichotomy i (SetTable.below pl j) with q | q | q
    · exact absurd (ris_lt T.ris hi.1 e1 q) (Nat.lt_irrefl _)
    · exact q
    · exact absurd (ris_lt T.ris e1 hi.1 q) (Nat.lt_irrefl _)
  rw [← this, ← Array.getElem?_toList]
  exact hi.2
abbrev HashAt (es : Array Ent) (f : Nat → Int) : Prop := ∀ i e, es[i]? = some e → f i = e.1
section
variable {w : World} {S : Int → Bool} {n : Nat} {es : Array Ent} {t : SetTable}
theorem TabS.gone (T : TabS w es t S n) : t.gaveWay = false := by
  have := T.tab.odd
  unfold SetTable.gaveWay
  simp [this]
theorem met_new (T : TabS w es t S n) {k : Int} (hS : S k = false) {f : Nat → Int} {r : Option SetTable.Met} (e : t.probe f k (t.probeStart k) = r) (hf : HashAt es f) : ∃ j, Rch t.mask (· ∈ t.place.toList) k j ∧ j ∉ t.place.toList ∧ r = some (.empty j none) := by
  obtain ⟨j, h1, h2, h3⟩ := probe_new T.tab T.dum (h := k) (hashAt := f) (fun j hj z => by
    obtain ⟨x, q1, q2⟩ := tab_at T.tab hj
    rw [hf _ _ q1] at z
    have hx := (List.of_mem_zip q2).2
    have : k ∈ es.toList.map keyOf := by
      rw [T.hashes]
      exact List.mem_map.mpr ⟨x, hx, z⟩
    have := (T.mem k).mpr this
    rw [hS] at this
    cases this) (by have := T.room; omega)
  exact ⟨j, h1, h2, e.symm.trans h3⟩
theorem met_old (T : TabS w es t S n) {k : Int} (hS : S k = true) {f : Nat → Int} {r : Option SetTable.Met} (e : t.probe f k (t.probeStart k) = r) (hf : HashAt es f) : ∃ j i nx tk, r = some (.candidate j i nx) ∧ es[i]? = some (k, Value.int k tk) := by
  have hm := (T.mem k).mp hS
  obtain ⟨x, hx, hxk⟩ := List.mem_map.mp hm
  obtain ⟨i, hi⟩ := List.getElem?_of_mem hx
  have hil := (List.getElem?_eq_some_iff.mp hi).1
  rw [Array.length_toList, ← T.tab.sz] at hil
  have hz : (t.place[i], x) ∈ t.place.toList.zip es.toList := List.mem_of_getElem? (i := i) (by
    rw [List.getElem?_zip_eq_some]
    exact ⟨by rw [Array.getElem?_toList]; exact Array.getElem?_eq_getElem hil, hi⟩)
  obtain ⟨k0, tk, h1, h2, h3⟩ := T.good x hx
  have hk0 : x.1 = k := by rw [← (T.good x hx).key]; exact hxk
  obtain ⟨nx, q⟩ := probe_old T.tab T.dum (hashAt := f) hz (fun j y hy => hf _ _ (zip_below T.tab hy)) fun q hq z => T.one hq hz z
  rw [hk0] at q
  refine ⟨_, _, nx, tk, e.symm.trans q, ?_⟩
  rw [zip_below T.tab hz]
  have e0 : k0 = k := h3.symm.trans hk0
  subst e0
  exact congrArg some (Prod.ext h3 h2)
end
section
variable {P : Program} {w : World} {A : Around} {E : Value → Shared → Prop} {s : Shared} {a : Addr} {S : Int → Bool} {n : Nat}
theorem not_seen {k : Int} {tk : Tok} {Q : Bool → Shared → Prop} : ∀ {l : List Value}, (∀ v ∈ l, ∃ (i : Int) (u : Tok), v = .int i u) → Q false s → wpAny (model P w) A (searchCouldBeSeen (.int k tk) l) Q E s := by
  intro l hl hq
  unfold searchCouldBeSeen
  have loop : ∀ (f : Value → Option Bool × Unit → Sem (ForInStep (Option Bool × Unit))) (hf : ∀ (i : Int) (u : Tok), f (.int i u) (none, ()) = pure (ForInStep.yield (none, ()))) (l : List Value), (∀ v ∈ l, ∃ (i : Int) (u : Tok), v = .int i u) → ∀ R : Option Bool × Unit → Shared → Prop, R (none, ()) s → wpAny (model P w) A (forIn l (none, ()) f) R E s := by
    intro f hf l
    induction l with
    | nil =>
      intro _ R hR
      rw [List.forIn_nil]
      exact wpAny_pure hR
    | cons v l ih =>
      intro hv R hR
      obtain ⟨i, u, rfl⟩ := hv v (by simp)
      rw [List.forIn_cons, hf]
      refine wpAny_bind (wpAny_pure ?_)
      exact ih (fun x hx => hv x (by simp [hx])) R hR
  refine wpAny_bind (loop _ (fun i u => rfl) l hl _ ?_)
  exact wpAny_pure hq
theorem search_new {o : Obj} {es : Array Ent} {ep : Nat} {t : SetTable} (ho : s.heap.get? a = some o) (hd : o.data = .set es ep t) (T : TabS w es t S n) {k : Int} {tk : Tok} (hS : S k = false) {Q : SetFound → Shared → Prop}
    (hQ : ∀ j, Rch t.mask (· ∈ t.place.toList) k j → j ∉ t.place.toList → Q (.free j false) s) : wpAny (model P w) A (setSearch a (.int k tk) k true) Q E s := by
  show wpAny _ _ (setSearchFrom a (.int k tk) k true (99999 + 1) none) _ _ _
  rw [setSearchFrom]
  refine wpAny_bind (wpAny_setState_of ho hd T.fits ?_)
  dsimp only
  rw [T.gone]
  simp only [Bool.false_eq_true, if_false, Option.getD_none]
  split
  · rename_i met e
    obtain ⟨j, h1, h2, z⟩ := met_new T hS e (fun i x h => by show ((es[i]?).map (·.1)).getD 0 = x.1; rw [h]; rfl)
    cases z
    exact wpAny_pure (hQ j h1 h2)
  · rename_i h e
    obtain ⟨j, h1, h2, z⟩ := met_new T hS rfl (fun i x h => by show ((es[i]?).map (·.1)).getD 0 = x.1; rw [h]; rfl)
    exact absurd z (by intro z; exact e _ z)
theorem search_old {o : Obj} {es : Array Ent} {ep : Nat} {t : SetTable} (ho : s.heap.get? a = some o) (hd : o.data = .set es ep t) (T : TabS w es t S n) {k : Int} {tk : Tok} (hS : S k = true) {Q : SetFound → Shared → Prop}
    (hQ : Q (.there none) s) : wpAny (model P w) A (setSearch a (.int k tk) k true) Q E s := by
  show wpAny _ _ (setSearchFrom a (.int k tk) k true (99999 + 1) none) _ _ _
  rw [setSearchFrom]
  refine wpAny_bind (wpAny_setState_of ho hd T.fits ?_)
  dsimp only
  rw [T.gone]
  simp only [Bool.false_eq_true, if_false, Option.getD_none]
  split
  · rename_i met e
    obtain ⟨j, i, nx, u, z, hi⟩ := met_old T hS e (fun i x h => by show ((es[i]?).map (·.1)).getD 0 = x.1; rw [h]; rfl)
    cases z
    dsimp only
    simp only [hi]
    by_cases hl : t.led = true
    · rw [if_neg (by simp [hl])]
      refine wpAny_bind (wpAny_holding (wpAny_eqBool_int ?_))
      refine wpAny_bind (wpAny_setState_of ho hd T.fits ?_)
      rw [if_pos (by simp)]
      exact wpAny_pure hQ
    · rw [if_pos (by simp [hl])]
      refine wpAny_bind (not_seen (fun v hv => ?_) ?_)
      · obtain ⟨x, hx, rfl⟩ := List.mem_map.mp hv
        rw [Array.toList_filter] at hx
        obtain ⟨k0, t0, _, h2, _⟩ := T.good x (List.mem_filter.mp hx).1
        exact ⟨k0, t0, h2⟩
      · rw [if_neg (by simp)]
        refine wpAny_bind (wpAny_holding (wpAny_eqBool_int ?_))
        refine wpAny_bind (wpAny_setState_of ho hd T.fits ?_)
        rw [if_pos (by simp)]
        exact wpAny_pure hQ
  · rename_i h e
    obtain ⟨j, i, nx, u, z, hi⟩ := met_old T hS rfl (fun i x h => by show ((es[i]?).map (·.1)).getD 0 = x.1; rw [h]; rfl)
    exact absurd z (by intro z; exact e _ z)
end
end DL
set_option Elab.async false
set_option linter.all false
set_option maxRecDepth 100000
set_option maxHeartbeats 4000000
/-! ST8: s.add(i), whole. -/
namespace DL
open PySem PySem.Spec PyProof.Rows L2
section
variable {P : Program} {w : World} {A : Around} {E : Value → Shared → Prop} {s : Shared} {a : Addr} {S : Int → Bool} {n : Nat}
theorem relay_ok {o : Obj} {es : Array Ent} {ep : Nat} {t : SetTable} (ho : s.heap.get? a = some o) (hd : o.data = .set es ep t) (ft : t.fits es.size = true) {wanted : Nat} (hw : wanted ≤ 100000) (hn : es.size ≤ wanted) (hl : es.size ≤ 20000) {Q : Unit → Shared → Prop}
    (hQ : ∀ t' es', t'.mask = SetTable.sizeAbove wanted - 1 → t'.dummies = #[] → t'.led = t.led ∧ t'.plain = t.plain → es'.toList.Perm es.toList → Tab t'.mask t'.place es' → Q () { s with heap := s.heap.update a (Obj.putSet es' t') }) : wpAny (model P w) A (setRelay a wanted) Q E s := by
  obtain ⟨t', order, e, m1, m2, m3, m4, pm, tb⟩ := relaid_tab (t := t) (es := es) (wanted := wanted) (by omega) hn
  obtain ⟨kk, k1, k2, k3⟩ := above_ok (n := wanted) (by omega)
  have sz := reorder_size pm
  unfold setRelay
  refine wpAny_bind (wpAny_setState_of ho hd ft ?_)
  dsimp only
  rw [if_neg (by
    have : sizeLine = 16777216 := rfl
    omega)]
  rw [e]
  show wpAny _ _ ((if ((order.filterMap (es[·]?)).size != es.size) = true then unsupported "internal:set-table-lost-an-element" >>= fun _ => pure (order.filterMap (es[·]?), t') else pure (order.filterMap (es[·]?), t')) >>= _) _ _ _
  rw [if_neg (by simp [sz])]
  refine wpAny_bind (wpAny_pure ?_)
  dsimp only
  exact wpAny_storeSet_of ho hd (hQ t' _ m1 m2 ⟨m3, m4⟩ (reorder_perm pm) tb) (line_of (by omega))
theorem hash_int {k : Int} (h : 0 ≤ k ∧ k < 2 ^ 60) : (intKind P w).hash k = k := hash_self h
theorem add_any {k : Int} {tk : Tok} {Q : Bool → Shared → Prop} (R : SetG w s.heap a S n) (hn : n + 1 ≤ 20000) (hk : 0 ≤ k ∧ k < 2 ^ 60)
    (hQ : ∀ h', Heap.SameBut a s.heap h' → SetG w h' a (fun j => S j || decide (j = k)) (if S k = true then n else n + 1) → Q (!S k) { s with heap := h' }) :
    wpAny (model P w) A (setAddHashed a (.int k tk) k) Q E s := by
  obtain ⟨o, es, ep, t, ho, hex, hd, T⟩ := R
  have same : S k = true → SetG w s.heap a (fun j => S j || decide (j = k)) n := fun hS => SetG.congr ⟨o, es, ep, t, ho, hex, hd, T⟩ fun j => by
    by_cases c : j = k
    · subst c; simp [hS]
    · simp [c]
  have els : ElemsOf (intKind P w) es.toList := good_elems fun e he => (T.good e he).good
  have hi : (intKind P w).is k (.int k tk) = true := intKind_is P w k tk
  unfold setAddHashed setAddHashedIn
  refine wpAny_holding (wpAny_bind (wpAny_setState_of ho hd T.fits ?_))
  dsimp only
  have nm := T.sz
  by_cases hb : es.size < scanBound
  · have scan : byScan (.int k tk) es = true := byScan_of (knd := intKind P w) rfl hb els
    rw [scan]
    simp only [↓reduceIte]
    unfold setAddByScan
    refine wpAny_bind ?_
    refine wpAny_bind (wpAny_rule ?_)
    have sc := fun (Q' : ScanMet → Shared → Prop) => wpAny_setScan_of (A := A) (E := E) (adding := true) (Q := Q') hi ho hd T.fits els
    rw [hash_int hk] at sc
    refine wpAny_bind (sc _ ?_)
    cases fi : List.findIdx? (fun e => (intKind P w).is k e.2) es.toList with
    | some j =>
      dsimp only
      obtain ⟨hj, pj, _⟩ := List.findIdx?_eq_some_iff_getElem.mp fi
      have hS : S k = true := (T.mem k).mpr (List.mem_map.mpr ⟨es.toList[j], List.getElem_mem hj, (good_is (T.good _ (List.getElem_mem hj)).good k).mp pj⟩)
      refine wpAny_pure (wpAny_pure ?_)
      have q := hQ s.heap (Heap.SameBut.refl a s.heap) (by rw [if_pos hS]; exact same hS)
      rw [hS] at q
      exact q
    | none =>
      dsimp only
      have hS : S k = false := by
        cases c : S k with
        | false => rfl
        | true =>
          obtain ⟨x, hx, hxk⟩ := List.mem_map.mp ((T.mem k).mp c)
          have := List.findIdx?_eq_none_iff.mp fi x hx
          rw [(good_is (T.good x hx).good k).mpr hxk] at this
          cases this
      obtain ⟨j, e, tb⟩ := layNew_tab T.tab T.dum (by have := T.room; have := T.tab.seven; omega) k (.int k tk)
      rw [e]
      dsimp only
      refine wpAny_bind (wpAny_pure ?_)
      have fin : ∀ h', Heap.SameBut a s.heap h' → SetG w h' a (fun j => S j || decide (j = k)) (n + 1) → wpAny (model P w) A (match some true with | some added => pure added | none => setAddHashedIn a (.int k tk) k 99999) Q E { s with heap := h' } := fun h' sb r => by
        have q := hQ h' sb (by rw [hS]; exact r)
        rw [hS] at q
        exact wpAny_pure q
      split
      · refine wpAny_bind ?_
        rw [hashByValue_scannable 8 (x := .int k tk) rfl]
        refine wpAny_pure ?_
        rw [show plainKind (Value.int k tk) = true from rfl]
        simp only [↓reduceIte]
        refine add_tail_scan ho hex hd T (tk := tk) hk hS (es1 := SetTable.insertAt es (SetTable.below t.place j) (k, .int k tk)) (t1 := putT t j) hn ins_perm tb T.dum ⟨rfl, rfl⟩ ?_ fin
        intro z; rw [z]; rfl
      · refine wpAny_bind (wpAny_pure ?_)
        simp only [↓reduceIte]
        refine add_tail_scan ho hex hd T (tk := tk) hk hS (es1 := SetTable.insertAt es (SetTable.below t.place j) (k, .int k tk)) (t1 := putT t j) hn ins_perm tb T.dum ⟨rfl, rfl⟩ ?_ fin
        intro z; rw [z]; rfl
  · have scan : byScan (.int k tk) es = false := by
      unfold byScan
      simp [hb]
    rw [scan]
    simp only [Bool.false_eq_true, ↓reduceIte]
    cases hS : S k with
    | true =>
      refine wpAny_bind (search_old ho hd T hS ?_)
      dsimp only
      have q := hQ s.heap (Heap.SameBut.refl a s.heap) (by rw [if_pos hS]; exact same hS)
      rw [hS] at q
      exact wpAny_pure q
    | false =>
      refine wpAny_bind (search_new ho hd T hS fun j r q => ?_)
      dsimp only
      refine wpAny_bind (wpAny_setState_of ho hd T.fits ?_)
      dsimp only
      rw [put_eq T.dum]
      dsimp only
      obtain ⟨tb, sz1⟩ : Tab t.mask (putT t j).place (SetTable.insertAt es (SetTable.below t.place j) (k, Value.int k tk)) ∧ (SetTable.insertAt es (SetTable.below t.place j) (k, Value.int k tk)).size = n + 1 := ⟨T.tab.put r q, by rw [ins_size, nm]⟩
      have fin : ∀ h', Heap.SameBut a s.heap h' → SetG w h' a (fun j => S j || decide (j = k)) (n + 1) → Q true { s with heap := h' } := fun h' sb r => by
        have q := hQ h' sb (by rw [hS]; exact r)
        rw [hS] at q
        exact q
      have tail : wpAny (model P w) A (storeSet a (SetTable.insertAt es (SetTable.below t.place j) (k, .int k tk)) (putT t j) >>= fun _ => if (!false && (putT t j).tooFull) = true then (setRelay a (SetTable.grown (es.size + 1)) >>= fun _ => pure true) else pure true) Q E s := by
        refine wpAny_bind (wpAny_storeSet_of ho hd ?_ (line_of (by omega)))
        have ho1 := at_store (es' := SetTable.insertAt es (SetTable.below t.place j) (k, .int k tk)) (t' := putT t j) ho hd
        have sb1 := Heap.SameBut.update s.heap a (Obj.putSet (SetTable.insertAt es (SetTable.below t.place j) (k, .int k tk)) (putT t j))
        have dm : (putT t j).dummies = #[] := T.dum
        have rm := T.room
        have sv := T.tab.seven
        have mk : (putT t j).mask = t.mask := rfl
        rw [full_iff (t := putT t j) tb dm]
        by_cases c : (SetTable.insertAt es (SetTable.below t.place j) (k, Value.int k tk)).size * 5 ≥ (putT t j).mask * 3
        · rw [if_pos (by simpa using c)]
          rw [grown_eq (by omega)]
          refine wpAny_bind (relay_ok ho1 rfl (fits_tab (t := putT t j) tb dm (by rw [mk]; omega)) (by omega) (by omega) (by omega) fun t2 es2 m1 m2 m3 m5 m6 => ?_)
          have ho2 := at_store (es' := es2) (t' := t2) ho1 rfl
          refine wpAny_pure (fin _ (sb1.trans (Heap.SameBut.update _ a _)) ⟨_, es2, _, t2, ho2, hex, rfl, T.put hk hS (m5.trans ins_perm) m6 m2 ?_ m3⟩)
          have sz2 : es2.size = n + 1 := by rw [← Array.length_toList, m5.length_eq, Array.length_toList, sz1]
          have := room_new (m := t2.mask) (n := es.size + 1) (by omega) m1
          omega
        · rw [if_neg (by simpa using c)]
          exact wpAny_pure (fin _ sb1 ⟨_, _, _, _, ho1, hex, rfl, T.put hk hS ins_perm tb dm (by omega) ⟨rfl, rfl⟩⟩)
      split
      · refine wpAny_bind ?_
        rw [hashByValue_scannable 8 (x := .int k tk) rfl]
        refine wpAny_pure ?_
        rw [show plainKind (Value.int k tk) = true from rfl]
        simp only [↓reduceIte]
        exact tail
      · refine wpAny_bind (wpAny_pure ?_)
        simp only [↓reduceIte]
        exact tail
end
end DL
set_option Elab.async false
set_option linter.all false
set_option maxRecDepth 100000
set_option maxHeartbeats 4000000
/-! DL26: set(xs) of a list of ints, sorted(set(xs)), any number of them. -/
namespace DL
open PySem PySem.Spec PyProof.Rows L2
section
variable {P : Program} {w : World} {A : Around} {E : Value → Shared → Prop} {s : Shared}
/-- the set that is made first -/
abbrev nwS (w : World) : Obj := { cls := .type "set", dict := none, data := .set #[] 0 (.fresh 0 0 (!w.params.followText "set-order")) }
theorem nwS_at {h : Heap} : (h.push (nwS w)).get? h.objs.size = some (nwS w) := Heap.get?_push_size _ rfl
end
end DL
set_option Elab.async false
set_option linter.all false
set_option maxRecDepth 100000
set_option maxHeartbeats 4000000
/-! ST9: set(xs) of any number of ints. -/
namespace DL
open PySem PySem.Spec PyProof.Rows L2
section
variable {P : Program} {w : World} {A : Around} {E : Value → Shared → Prop} {s : Shared}
theorem fill_set {I : Addr} {fp wr : List Addr} {G : Array GenState → Array GenState → Prop} {n : Nat} {Pv : Nat → Value → Prop} {St : Nat → Shared → Prop} {R : Result → Shared → Prop} (W : WalksS P w A.in1 I fp wr G n Pv St)
    (a : Addr) (na : a ∉ fp) (ns : List Int) (en : n = ns.length) (hb : ns.length ≤ 19999) (nn : ∀ k ∈ ns, 0 ≤ k ∧ k < 2 ^ 60) (at_ : ∀ i v, Pv i v → ∃ k t, ns[i]? = some k ∧ v = .int k t) :
    ∀ (d i : Nat) (s : Shared), n - i = d → i ≤ n → St i s → (∃ c, c ≤ i ∧ SetG w s.heap a (fun j => decide (j ∈ ns.take i)) c) →
      (∀ s' c, Moved (a :: wr) G s s' → c ≤ n → SetG w s'.heap a (fun j => decide (j ∈ ns)) c → R (.ok (.ret .none)) s') → codeAny (model P w) A (.builtin "set.update.loop" ⟨[.ref a, .ref I], []⟩) R s := by
  have aw : a ∉ wr := fun q => na (W.sub _ q)
  have up : ∀ b ∈ wr, b ∈ a :: wr := fun b q => List.mem_cons_of_mem _ q
  intro d
  induction d with
  | zero =>
    intro i s e1 e2 st ⟨c, c1, c2⟩ fin
    obtain rfl : i = n := by omega
    refine codeAny_builtin F.entry_set_update_loop ?_
    rw [Around.under_plainId F.plain_set_update_loop _]
    show wpAny _ A.in1 (pyNext (.ref I) >>= _) _ _ s
    refine wpAny_bind (W.done s _ _ st fun s1 mv => ?_)
    rw [List.take_of_length_le (show ns.length ≤ i by omega)] at c2
    show wpAny _ A.in1 (ret Value.none) _ _ s1
    exact wpAny_pure (fin s1 c (mv.mono up) c1 (c2.at fun o q => mv.heap a o aw q))
  | succ d ih =>
    intro i s e1 e2 st ⟨c, c1, c2⟩ fin
    have lt : i < n := by omega
    refine codeAny_builtin F.entry_set_update_loop ?_
    rw [Around.under_plainId F.plain_set_update_loop _]
    show wpAny _ A.in1 (pyNext (.ref I) >>= _) _ _ s
    refine wpAny_bind (W.item i s _ _ lt st fun v s1 hv st1 mv => ?_)
    obtain ⟨k, t, hk, rfl⟩ := at_ i v hv
    have c3 : SetG w s1.heap a (fun j => decide (j ∈ ns.take i)) c := c2.at fun o q => mv.heap a o aw q
    have kr := nn k (List.mem_of_getElem? hk)
    show wpAny _ A.in1 (holding [Value.int k t] (setAdd a (.int k t)) >>= _) _ _ s1
    refine wpAny_bind (wpAny_holding ?_)
    unfold setAdd
    refine wpAny_holding ?_
    refine wpAny_bind ((intKind P w).pyHash (intKind_is _ _ k t) ?_)
    rw [hash_int kr]
    refine add_any (s := { s1 with toks := s1.toks + 1 }) c3 (by omega) kr fun h1 sb g1 => ?_
    have g2 : SetG w h1 a (fun j => decide (j ∈ ns.take (i + 1))) (if decide (k ∈ ns.take i) = true then c else c + 1) := g1.congr fun j => by
      rw [List.take_add_one, hk]
      simp [List.mem_append]
    have c4 : (if decide (k ∈ ns.take i) = true then c else c + 1) ≤ i + 1 := by split <;> omega
    have ot : ∀ b ∈ fp, ∀ o, s1.heap.get? b = some o → h1.get? b = some o := fun b q o z => by
      rw [sb.2 b (fun e => na (e ▸ q))]
      exact z
    refine wpAny_pure ⟨plainId_quiet F.plain_set_update_loop _, ih (i + 1) _ (by omega) lt (W.frame _ s1 _ _ st1 (Nat.le_succ _) fun b q o z => ot b q o z) ⟨_, c4, g2⟩ fun s2 c' mv2 c5 g3 => fin s2 c' ?_ c5 g3⟩
    refine Moved.trans W.gtrans ((mv.mono up).then_heap (Nat.le_succ _) fun b o q z => ?_) mv2
    rw [sb.2 b (fun e => q (e ▸ List.mem_cons_self))]
    exact z
theorem fresh_tab (f m : Nat) (l : Bool) : Tab (SetTable.fresh f m l).mask (SetTable.fresh f m l).place #[] := ⟨rfl, List.Pairwise.nil, (fun _ h => by cases h), ⟨0, rfl⟩, fun _ h => by cases h⟩
theorem setG_new {h : Heap} {a : Addr} (e : h.get? a = some (nwS w)) : SetG w h a (fun _ => false) 0 :=
  ⟨_, #[], 0, _, e, ⟨rfl, rfl, rfl⟩, rfl, (fun _ h => by cases h), List.Pairwise.nil, (fun k => by simp), rfl, fresh_tab _ _ _, rfl, by show 0 * 5 < 7 * 3; omega, by
    show _ ∨ (!w.params.followText "set-order") = true
    cases w.params.followText "set-order" <;> simp, rfl⟩
end
end DL
set_option Elab.async false
set_option linter.all false
set_option maxRecDepth 100000
set_option maxHeartbeats 4000000
/-! ST10: set(xs), sorted(set(xs)), any number of ints. -/
namespace DL
open PySem PySem.Spec PyProof.Rows L2
section
variable {P : Program} {w : World} {A : Around} {E : Value → Shared → Prop} {s : Shared}
theorem made_of_ints {l : Addr} {its : Array Value} (ns : List Int) {Q : Value → Shared → Prop} (hh : A.handled = none) (hl : s.heap.IsList l its) (hit : IntsAre its.toList ns) (hb : ns.length ≤ 19999) (nn : ∀ k ∈ ns, 0 ≤ k ∧ k < 2 ^ 60)
    (h : ∀ (h' : Heap) (tk c : Nat), SetG w h' s.heap.objs.size (fun j => decide (j ∈ ns)) c → c ≤ ns.length → (∀ b o, s.heap.get? b = some o → h'.get? b = some o) → Q (.ref s.heap.objs.size) { s with heap := h', toks := tk }) :
    wpAny (model P w) A (call (.type "set") [.ref l]) Q E s := by
  have hsz : its.size = ns.length := by
    have := IntsAre.length hit
    rwa [Array.length_toList] at this
  obtain ⟨c0, tl0, mro0⟩ := F.called_set.mro
  have made0 := F.called_set.made
  have sub0 := F.called_set.sub
  refine wpAny_call (codeAny_of_tree ?_)
  show wpAny _ _ (callAny (Value.type "set") _) _ _ _
  refine wpAny_pure ⟨Code.quiet_builtin _ (by decide +kernel), codeAny_builtin F.entry_type_call ?t⟩
  case t =>
  rw [Around.under_plain (weight_type_call_type "set" [.ref l] ([] : List _)) rfl]
  have nt := F.called_set.notType
  have cc := F.called_set.canCreate
  have tc := F.typeCall_set_1 (.ref l)
  repeat (any_goals (first | assumption | wp_step))
  refine codeAny_mono (code_set_led1 (.ref l) (E := E) (Q₁ := fun obj t => obj = .ref s.heap.objs.size ∧ t = { s with heap := s.heap.push (nwS w) }) ⟨rfl, rfl⟩) fun r t hr => ?_
  match r, hr with
  | .error e, hr => exact hr
  | .ok (.ret obj), hr =>
    obtain ⟨rfl, rfl⟩ := hr
    have at0 := nwS_at (w := w) (h := s.heap)
    have ty0 : Shared.TypeIs { s with heap := s.heap.push (nwS w) } (.ref s.heap.objs.size) "set" := ⟨_, at0, rfl⟩
    have li0 := F.called_set.init.lookup
    have bi0 := F.called_set.init.bind (.ref s.heap.objs.size)
    repeat (any_goals (first | assumption | wp_step))
    refine codeAny_mono (codeAny_call_builtin (R := wants (fun r t => r = .none ∧ ∃ h' tk c, t = { s with heap := h', toks := tk } ∧ SetG w h' s.heap.objs.size (fun j => decide (j ∈ ns)) c ∧ c ≤ ns.length ∧
        (∀ b o, s.heap.get? b = some o → h'.get? b = some o)) E) F.called_set.init.plain F.entry_set_init (check_set_init_1 ty0 ?_)) fun r2 t2 hr2 => ?_
    · obtain ⟨ob, hob, hc0, nl, hd0⟩ := hl
      obtain ⟨oc, od, odt, os0⟩ := ob
      simp only at hc0 hd0
      subst hc0 hd0
      have hob' : (s.heap.push (nwS w)).get? l = some { cls := .type "list", dict := od, data := .seq its nl, slots := os0 } := Heap.get?_push_of_some _ hob
      have s1 := F.sub_list_set
      have s2 := F.sub_list_frozenset
      have ne0 : (Value.type "list" == Value.type "dict") = false := by decide
      have isl : (s.heap.push (nwS w)).IsList l its := ⟨_, hob', rfl, nl, rfl⟩
      unfold Builtin.«set.__init__» noKeywords Builtin.Frozenset.updateFrom
      generalize gPI : pyIter = PI
      wp_walk
      subst gPI
      refine wpAny_pyIter_list isl ?_
      refine wpAny_bind (wpAny_runValue ?_)
      have lt0 : l < s.heap.objs.size := Heap.lt_size hob
      have hh3 : A.in1.in1.in1.handled = none := by simp [hh]
      have neI : l ≠ (s.heap.push (nwS w)).objs.size := by
        rw [Heap.size_push]
        exact Nat.ne_of_lt (Nat.lt_succ_of_lt lt0)
      have nf : s.heap.objs.size ∉ [(s.heap.push (nwS w)).objs.size, l] := by
        rw [Heap.size_push]
        simp only [List.mem_cons, List.not_mem_nil, or_false, not_or]
        exact And.intro (Nat.ne_of_lt (Nat.lt_succ_self _)) (Nat.ne_of_gt lt0)
      have hv : ∀ (i : Nat) (v : Value), its[i]? = some v → ∃ k t, ns[i]? = some k ∧ v = .int k t := fun i v q => by
        have hi : i < ns.length := by
          rw [← hsz]
          exact (Array.getElem?_eq_some_iff.mp q).1
        obtain ⟨t, e⟩ := PyProof.Rows.IntsAre.int_at hit i v (by rwa [Array.getElem?_toList])
        refine ⟨ns[i], t, List.getElem?_eq_getElem hi, ?_⟩
        rw [e, List.getD_eq_getElem?_getD, List.getElem?_eq_getElem hi]
        rfl
      refine fill_set ((Walks.list hh3 _ l neI its).toS) s.heap.objs.size nf ns hsz hb nn hv (its.size - 0) 0 _ (by omega) (Nat.zero_le _) ⟨⟨_, Heap.get?_push_size _ rfl, rfl, rfl⟩, (isl.push _)⟩ ?z0 ?zR
      case z0 => exact ⟨0, Nat.le_refl 0, setG_new (Heap.get?_push_of_some _ at0)⟩
      case zR =>
        intro t c hm hc hS
        obtain ⟨h', g', d', tk', o'⟩ := t
        have eg : g' = s.gens := hm.gens
        have ed : d' = s.drawn := hm.drawn
        have eo : o' = s.os := hm.os
        subst eg ed eo
        show wpAny _ _ _ _ _ _
        refine wpAny_pure ?_
        show wpAny _ _ (ret Value.none) _ _ _
        rw [hsz] at hc
        refine wpAny_pure ⟨rfl, h', tk', c, rfl, hS, hc, fun b o q => ?_⟩
        have b0 : b < s.heap.objs.size := Heap.lt_size q
        have b1 : b ∉ [s.heap.objs.size, (s.heap.push (nwS w)).objs.size] := by
          rw [Heap.size_push]
          simp only [List.mem_cons, List.not_mem_nil, or_false, not_or]
          exact And.intro (Nat.ne_of_lt b0) (Nat.ne_of_lt (Nat.lt_succ_of_lt b0))
        exact hm.heap b o b1 (Heap.get?_push_of_some _ (Heap.get?_push_of_some _ q))
    · match r2, hr2 with
      | .error e, hr2 => exact hr2
      | .ok (.ret r), hr2 =>
        obtain ⟨rfl, h', tk, c, rfl, hS, hc, hk⟩ := hr2
        repeat (any_goals (first | assumption | wp_step))
        exact h _ _ _ hS hc hk
/-- iter(s): it walks the members in some order -/
theorem walk_set {a : Addr} {es : Array Ent} {ep : Nat} {t : SetTable} {S : Int → Bool} {n : Nat} {Q : Value → Shared → Prop} (sa : SetAt s.heap a es ep t) (T : TabS w es t S n) (k : ∀ s₂ I, SetIt P w s a es s₂ I → Q (.ref I) s₂) : wpAny (model P w) A (pyIter (.ref a)) Q E s := by
  obtain ⟨o, at0, oc, od⟩ := id sa
  have ty : s.TypeIs (.ref a) "set" := ⟨o, at0, oc⟩
  have ne : a ≠ s.heap.objs.size := Nat.ne_of_lt (Heap.lt_size at0)
  have ft := T.fits
  refine wpAny_pyIter_slot ty F.slot_set_iter (wpAny_call_entry F.slot_set_iter ty entry_s_iter ?_ (F.args_set_iter_1 _))
  unfold Builtin.«frozenset.__iter__»
  refine wpAny_bind (m := Builtin.Frozenset.slot0 "__iter__" _) (wpAny_of_eq (a := a) rfl ?_)
  refine wpAny_bind (m := Builtin.Frozenset.sizeOf a) (by
    unfold Builtin.Frozenset.sizeOf
    refine wpAny_bind (wpAny_setEntries_of at0 od ft (wpAny_pure ?_))
    first | refine wpAny_bind (setDrawn_at sa ft ?_) | refine wpAny_bind (wpAny_bind (setDrawn_at sa ft ?_))
    refine wp_if_neg (by simp [T.pln]) ?_
    first | refine wpAny_bind (wpAny_pure ?_) | refine wpAny_pure ?_
    refine wpAny_bind (wpAny_setEpoch_of at0 od ft ?_)
    refine wpAny_bind (wpAny_newObj_type (wpAny_pure ⟨_, rfl, "set_iterator", _, ⟨_, Heap.get?_push_size _ rfl, rfl⟩, slot_si_next.lookup, ?_⟩))
    have own : ∀ b ∈ [s.heap.objs.size, a], b = a ∨ s.heap.objs.size ≤ b := fun b q => by
      simp only [List.mem_cons, List.not_mem_nil, or_false] at q
      rcases q with rfl | rfl
      · exact .inr (Nat.le_refl _)
      · exact .inl rfl
    cases hb : w.params.followText "set-order" with
    | true =>
      exact k _ _ (SetIt.of (fun A' q => walks_text (P := P) (ep := ep) q ne ft hb) (by rw [List.length_map, Array.length_toList]) (fun b u e => Heap.get?_push_of_some _ e) rfl rfl rfl (Nat.le_refl _) own
        ((pick_perm (w.params.setOrder a ep) es).map _) (fun j v q => by rw [List.getElem?_map, Array.getElem?_toList]; exact q) ⟨⟨_, Heap.get?_push_size _ rfl, rfl, rfl⟩, sa.at fun u e => Heap.get?_push_of_some _ e⟩)
    | false =>
      have ld : t.led = true := T.led.resolve_left (by rw [hb]; exact Bool.false_ne_true)
      exact k _ _ (SetIt.of (fun A' q => walks_led (P := P) (ep := ep) q ne ft T.tab.ris hb (by simp [T.pln]) ld) (by rw [List.length_map, Array.length_toList]) (fun b u e => Heap.get?_push_of_some _ e) rfl rfl rfl (Nat.le_refl _) own
        (List.Perm.refl _) (fun j v q => by rw [List.getElem?_map, Array.getElem?_toList]; exact q) ⟨⟨_, Heap.get?_push_size _ rfl, rfl, rfl⟩, sa.at fun u e => Heap.get?_push_of_some _ e⟩))
/-- its members, gathered -/
theorem gather_set {a : Addr} {es : Array Ent} {ep : Nat} {t : SetTable} {S : Int → Bool} {n : Nat} {Q : List Value → Shared → Prop} (hh : A.handled = none) (sa : SetAt s.heap a es ep t) (T : TabS w es t S n) (hz : n ≤ sizeLine)
    (k : ∀ s1 out, (∀ b o, s.heap.get? b = some o → s1.heap.get? b = some o) → s.heap.objs.size ≤ s1.heap.objs.size → s1.gens = s.gens → s1.os = s.os → out.Perm (es.toList.map (·.2)) → Q out s1) : wpAny (model P w) A (collect (.ref a)) Q E s := by
  obtain ⟨o, at0, oc, od⟩ := id sa
  have lt0 : a < s.heap.objs.size := Heap.lt_size at0
  have ne0 : s.heap.objs.size ≠ a := Nat.ne_of_gt lt0
  unfold collect
  refine wpAny_bind (wpAny_runValue (codeAny_builtin F.entry_proto_collect ?_))
  rw [Around.under_plainId F.plain_proto_collect _]
  show wpAny _ A.in1 (newList [] >>= fun l => again (.builtin "list.__iadd__" ⟨[l, .ref a], []⟩)) _ _ s
  refine wpAny_bind (wpAny_newObj_type ?_)
  refine wpAny_pure ⟨plainId_quiet F.plain_list_iadd _, codeAny_builtin F.entry_list_iadd ?_⟩
  rw [Around.under_plainId F.plain_list_iadd _]
  obtain ⟨H1, eH1⟩ : ∃ H1, H1 = s.heap.push { cls := .type "list", data := .seq ([] : List Value).toArray } := ⟨_, rfl⟩
  have l1 : H1.get? s.heap.objs.size = some { cls := .type "list", data := .seq ([] : List Value).toArray } := by rw [eH1]; exact Heap.get?_push_size _ rfl
  have k1 : ∀ b u, s.heap.get? b = some u → H1.get? b = some u := fun b u q => by rw [eH1]; exact Heap.get?_push_of_some _ q
  have z1 : H1.objs.size = s.heap.objs.size + 1 := by rw [eH1]; exact size_push' _ _
  have sa1 : SetAt H1 a es ep t := sa.at fun u q => k1 a u q
  rw [← eH1]
  show wpAny _ A.in1 (Builtin.List.listExtendWith (.ref s.heap.objs.size) (.ref a) (.ref s.heap.objs.size)) _ _ _
  unfold Builtin.List.listExtendWith
  refine wpAny_bind (wpAny_typeOf (T := "set") ⟨o, k1 _ _ at0, oc⟩ ?_)
  have f1 : Builtin.List.listSameRef (.ref s.heap.objs.size) (.ref a) = false := by simp [Builtin.List.listSameRef, ne0]
  have f2 : (Value.type "set" == Value.type "list") = false := by decide
  have f3 : (Value.type "set" == Value.type "tuple") = false := by decide
  simp only [f1, f2, f3, Bool.or_false, Bool.false_eq_true, if_false]
  refine wpAny_bind (walk_set (s := { s with heap := H1 }) sa1 T fun s₂ I si => ?_)
  obtain ⟨fp, St, out, Pv, k2, g2, o2, t2, gI, gf, pm, wk, hP, st⟩ := si
  have gI : s.heap.objs.size + 1 ≤ I := by rw [← z1]; exact gI
  have nf : s.heap.objs.size ∉ fp := fun q => by
    rcases gf _ q with z | z
    · exact ne0 z
    · have : s.heap.objs.size + 1 ≤ s.heap.objs.size := by rw [← z1]; exact z
      omega
  have at2 := k2 a o (k1 _ _ at0)
  have ty2 : s₂.TypeIs (.ref a) "set" := ⟨o, at2, oc⟩
  refine wpAny_bind (wpAny_holding ?_)
  unfold Builtin.List.listLengthHint
  refine wpAny_bind (wpAny_specialOf ty2 F.slot_set_len.lookup ?_)
  (generalize eid : ("set.__len__" : String) = id0; (fail_if_success (clear eid id0)); wp_delta; rw [show splitId id0 = some ("set", "__len__") from by subst eid; decide +kernel]; subst eid)
  refine wpAny_bind (wpAny_isInstance (b := true) ty2 sub_set_self ?_)
  show wpAny _ A.in1 (typeOf (.ref a) >>= _) _ _ _
  refine wpAny_bind (wpAny_typeOf ty2 (wpAny_pure ?_))
  show wpAny _ A.in1 (rule "list.extend.makes-room" >>= fun _ => Builtin.List.listTouch (.ref s.heap.objs.size) >>= fun _ => again (.builtin "list.extend.loop" ⟨[.ref s.heap.objs.size, .ref I, .ref s.heap.objs.size], []⟩)) _ _ _
  refine wpAny_bind (wpAny_rule ?_)
  have l2 := k2 _ _ l1
  refine wpAny_bind ?_
  show wpAny _ A.in1 (updateSeq s.heap.objs.size (·.push .none) >>= fun _ => updateSeq s.heap.objs.size (·.pop)) _ _ _
  refine wpAny_bind (wpAny_updateSeq l2 rfl ?_)
  have l3 := Heap.get?_update_self (Obj.mapSeq (·.push Value.none)) l2 rfl
  refine wpAny_updateSeq l3 rfl ?_
  have l4 := Heap.get?_update_self (Obj.mapSeq (·.pop)) l3 rfl
  have ot : ∀ b u, b ≠ s.heap.objs.size → s₂.heap.get? b = some u → ((s₂.heap.update s.heap.objs.size (Obj.mapSeq (·.push Value.none))).update s.heap.objs.size (Obj.mapSeq (·.pop))).get? b = some u := fun b u q e => by
    rw [Heap.get?_update_other _ _ (Ne.symm q), Heap.get?_update_other _ _ (Ne.symm q)]
    exact e
  have lo : out.length ≤ sizeLine := by
    rw [pm.length_eq, List.length_map, Array.length_toList, T.sz]
    exact hz
  have W := wk A.in1 hh
  have st2 : St 0 ((s₂.heap.update s.heap.objs.size (Obj.mapSeq (·.push Value.none))).update s.heap.objs.size (Obj.mapSeq (·.pop))) := W.frame 0 _ _ st fun b q u e => ot b u (fun z => nf (z ▸ q)) e
  refine wpAny_pure ⟨plainId_quiet F.plain_extend_loop _, codeAny_extend_loopS W.toS lo _ nf _ out.length 0 _ _ _ rfl (Nat.zero_le _) st2 l4 (ItemsOf.nil Pv) fun s3 acc c mv l5 it => ?_⟩
  show wpAny _ A (load s.heap.objs.size >>= _) _ _ s3
  refine wpAny_bind (wpAny_load l5 (wpAny_pure ?_))
  show Q acc.toList s3
  rw [items_out it hP]
  refine k s3 out (fun b u e => ?_) (Nat.le_of_lt (Heap.lt_size l5)) (Eq.trans mv.gens g2) (Eq.trans mv.os o2) pm
  have lb : b < s.heap.objs.size := Heap.lt_size e
  refine mv.heap b u (fun z => ?_) (ot b u (Nat.ne_of_lt lb) (k2 b u (k1 _ _ e)))
  simp only [List.mem_cons, List.not_mem_nil, or_false] at z
  rcases z with z | z
  · rw [z] at lb; exact absurd lb (Nat.lt_irrefl _)
  · rw [z] at lb; exact absurd lb (Nat.not_lt_of_le (Nat.le_of_succ_le gI))
/-- sorted(a set of ints) -/
theorem sort_set {a : Addr} {M : Int → Bool} {n : Nat} {Q : Value → Shared → Prop} (R : SetG w s.heap a M n) (hh : A.handled = none) (hz : n ≤ sizeLine)
    (hQ : ∀ t p (out : List Value) (c : Nat) (ns : List Int), (∀ b o, s.heap.get? b = some o → t.heap.get? b = some o) → t.gens = s.gens → t.os = s.os → s.heap.objs.size ≤ p →
      t.heap.get? p = some (seqObj "list" out.toArray c) → IntsAre out ns → ns.Pairwise (· < ·) → (∀ k, k ∈ ns ↔ M k = true) → ns.length = n → Q (.ref p) t) :
    wpAny (model P w) A (call (.builtin "sorted") [.ref a]) Q E s := by
  obtain ⟨ob, es, ep, tb, hob, ex, hd, T⟩ := R
  refine Calls.call_function_entry kind_sorted plain_sorted entry_sorted (args_sorted1 _) ?go
  case go =>
  unfold Builtin.«sorted»
  refine wpAny_bind (m := checkCount "sorted" 1 1 _) (wpAny_pure ?_)
  refine wpAny_bind (gather_set (A := A.in1) hh ⟨ob, hob, ex.1, hd⟩ T hz fun t vs keep lo eg eo perm => ?_)
  have len : vs.length = n := by
    rw [perm.length_eq, List.length_map, Array.length_toList]
    exact T.sz
  have isI : IntsAre vs (vs.map Builtin.Re.reRawOf) := ints_of vs fun v hv => by
    obtain ⟨e, he, q⟩ := List.mem_map.mp (perm.mem_iff.mp hv)
    obtain ⟨k, tk, _, h1, _⟩ := T.good e he
    exact ⟨k, tk, by rw [← q]; exact h1⟩
  have pk : (vs.map Builtin.Re.reRawOf).Perm (es.toList.map keyOf) := by
    have q := perm.map Builtin.Re.reRawOf
    rwa [List.map_map] at q
  refine wpAny_bind (wpAny_newList ?n1 (by rw [len]; exact hz))
  case n1 =>
  have atL : (t.heap.push (seqObj "list" vs.toArray 0)).get? t.heap.objs.size = some (seqObj "list" vs.toArray 0) := Heap.get?_push_size _ rfl
  refine wpAny_bind (wpAny_holding (wpAny_call_entry slot_list_sort ⟨_, atL, rfl⟩ entry_list_sort
    (SrtO.list_sort_ord SrtO.swo_int atL (by rw [len]; exact hz) (fun h2 => SrtO.ints_sortable isI h2) fun out h1 h2 => ⟨.none, rfl, ?fin⟩) (args_list_sort _)))
  case fin =>
  obtain ⟨k1, k2, k3⟩ := SrtO.ints_out isI h1 h2
  obtain ⟨c, hc⟩ := sortedHeap_at (vs := vs) (out := out.toArray) atL
  have pn : (out.map SrtO.iv).Perm (es.toList.map keyOf) := k2.trans pk
  refine wpAny_pure ⟨_, rfl, hQ _ t.heap.objs.size out c (out.map SrtO.iv) (fun b u e => ?old) eg eo lo hc k1 (lt_of_le_nodup _ k3 (pn.nodup_iff.mpr T.nodup)) (fun k => by rw [pn.mem_iff, ← T.mem k]) (by rw [pn.length_eq, List.length_map, Array.length_toList]; exact T.sz)⟩
  case old =>
  have q := keep b u e
  have lt0 := Heap.lt_size q
  show (sortedHeap (t.heap.push (seqObj "list" vs.toArray 0)) t.heap.objs.size vs out.toArray).get? b = some u
  rw [sortedHeap_old (Nat.ne_of_lt lt0) (by rw [size_push']; exact Nat.lt_succ_of_lt lt0)]
  exact Heap.get?_push_of_some _ q
end
end DL
set_option Elab.async false
set_option linter.all false
set_option maxRecDepth 100000
set_option maxHeartbeats 4000000
/-! DL18: what is wished for behind a denotation, construct by construct. -/
namespace DL
open PySem L2
def wp {α : Type} (r : Rs α) (P : α → Sl → Prop) : Prop := match r with
  | .ok a S => P a S
  | _ => False
def wo (o : Out) (N : Sl → Prop) (R : RV → Sl → Prop) (B C : Sl → Prop) : Prop := match o with
  | .nx S => N S
  | .rt r S => R r S
  | .bk S => B S
  | .ct S => C S
  | _ => False
/-- an option that is there -/
def oP {α : Type} (o : Option α) (P : α → Prop) : Prop := match o with
  | some x => P x
  | none => False
theorem oP_some {α : Type} {x : α} {P : α → Prop} : oP (some x) P = P x := rfl
theorem oP_none {α : Type} {P : α → Prop} : oP (none : Option α) P = False := rfl
theorem oP_if {α : Type} {c : Prop} [Decidable c] {x : α} {P : α → Prop} : oP (if c then some x else none) P = (c ∧ P x) := by
  by_cases h : c <;> simp [h, oP]
theorem oP_map {α β : Type} {o : Option α} {f : α → β} {P : β → Prop} : oP (o.map f) P = oP o fun x => P (f x) := by cases o <;> rfl
theorem wp_ok {α : Type} {a : α} {S : Sl} {P : α → Sl → Prop} : wp (.ok a S) P = P a S := rfl
theorem wp_no {α : Type} {P : α → Sl → Prop} : wp .no P = False := rfl
theorem wp_bind {α β : Type} {r : Rs α} {k : α → Sl → Rs β} {P : β → Sl → Prop} : wp (r.bind k) P = wp r fun a S => wp (k a S) P := by cases r <;> rfl
theorem wp_mono {α : Type} {r : Rs α} {P Q : α → Sl → Prop} (h : wp r P) (k : ∀ a S, P a S → Q a S) : wp r Q := by
  cases r with
  | ok a S => exact k a S h
  | ex x S => exact h
  | no => exact h
theorem wp_ite {α : Type} {b : Prop} [Decidable b] {r s : Rs α} {P : α → Sl → Prop} : wp (if b then r else s) P = if b then wp r P else wp s P := by split <;> rfl
theorem wp_ifno {α : Type} {b : Prop} [Decidable b] {r : Rs α} {P : α → Sl → Prop} : wp (if b then r else .no) P = (b ∧ wp r P) := by
  by_cases h : b <;> simp [h, wp]
theorem wo_ite {b : Prop} [Decidable b] {r s : Out} {N : Sl → Prop} {R : RV → Sl → Prop} {B C : Sl → Prop} : wo (if b then r else s) N R B C = if b then wo r N R B C else wo s N R B C := by split <;> rfl
section
variable {f g : Sl → Rs RV} {f1 g1 h1 : Sl → Rs NV} {fb gb : Sl → Rs Bool} {fa : Sl → Rs (List NV)} {S : Sl} {F G : Sl → Out} {N : Sl → Prop} {R : RV → Sl → Prop} {B C : Sl → Prop} {P : RV → Sl → Prop} {i j : Nat}
/-! statements -/
theorem wo_nx : wo (.nx S) N R B C = N S := rfl
theorem wo_rt {r : RV} : wo (.rt r S) N R B C = R r S := rfl
theorem wo_bk : wo (.bk S) N R B C = B S := rfl
theorem wo_ct : wo (.ct S) N R B C = C S := rfl
theorem wo_no : wo .no N R B C = False := rfl
theorem wo_bindS {α : Type} {r : Rs α} {k : α → Sl → Out} : wo (bindS r k) N R B C = wp r fun a S => wo (k a S) N R B C := by cases r <;> rfl
theorem wo_next : wo (sNext S) N R B C = N S := rfl
theorem wo_seq : wo (sSeq F G S) N R B C = wo (F S) (fun S1 => wo (G S1) N R B C) R B C := by
  unfold sSeq
  cases F S <;> rfl
theorem wo_seqN : wo (sSeqN F G S) N R B C = wo (F S) (fun S1 => wo (G S1) N R B C) (fun _ _ => False) (fun _ => False) (fun _ => False) := by
  unfold sSeqN
  cases F S <;> rfl
theorem wo_if : wo (sIf fb F G S) N R B C = wp (fb S) fun b S1 => if b = true then wo (F S1) N R B C else wo (G S1) N R B C := by
  unfold sIf
  rw [wo_bindS]
  congr
  funext b S1
  exact wo_ite
theorem wo_set : wo (sSet i f S) N R B C = wp (f S) fun r S1 => oP (svOf r) fun sv => N (S1.set i sv) := by
  unfold sSet
  rw [wo_bindS]
  congr
  funext r S1
  unfold setR
  cases svOf r <;> rfl
theorem wo_ret : wo (sRet f S) N R B C = wp (f S) fun r S1 => wo (rtOut r S1) N R B C := wo_bindS
theorem wo_drop : wo (sDrop f S) N R B C = wp (f S) fun _ S1 => N S1 := wo_bindS
theorem wo_mono {o : Out} {N' : Sl → Prop} {R' : RV → Sl → Prop} {B' C' : Sl → Prop} (h : wo o N R B C) (hn : ∀ S, N S → N' S) (hr : ∀ r S, R r S → R' r S) (hb : ∀ S, B S → B' S) (hc : ∀ S, C S → C' S) : wo o N' R' B' C' := by
  cases o with
  | nx S => exact hn S h
  | rt r S => exact hr r S h
  | bk S => exact hb S h
  | ct S => exact hc S h
  | ex x S => exact h
  | no => exact h
/-- a loop by its invariant -/
theorem wo_for {bind : D → Sl → Option Sl} {body : Sl → Out} (I : List D → Sl → Prop) : ∀ {ds : List D} {S : Sl}, I ds S → (∀ d r S, I (d :: r) S → oP (bind d S) fun S1 => wo (body S1) (I r) R N (I r)) → (∀ S, I [] S → N S) → wo (forF bind body ds S) N R B C
  | [], S, h, _, e => e S h
  | d :: r, S, h, k, e => by
    have q := k d r S h
    unfold forF
    cases eb : bind d S with
    | none => rw [eb] at q; exact q.elim
    | some S1 =>
      rw [eb] at q
      have q' : wo (body S1) (I r) R N (I r) := q
      show wo (match body S1 with | .nx S2 => forF bind body r S2 | .ct S2 => forF bind body r S2 | .bk S2 => .nx S2 | .rt r S2 => .rt r S2 | .ex x S2 => .ex x S2 | .no => .no) N R B C
      cases eo : body S1 with
      | nx S2 => rw [eo] at q'; exact wo_for I q' k e
      | ct S2 => rw [eo] at q'; exact wo_for I q' k e
      | bk S2 => rw [eo] at q'; exact q'
      | rt r S2 => rw [eo] at q'; exact q'
      | ex x S2 => rw [eo] at q'; exact q'.elim
      | no => rw [eo] at q'; exact q'.elim
theorem wo_sFor {fi : Sl → Rs (List D)} {bind : D → Sl → Option Sl} : wo (sFor fi bind F S) N R B C = wp (fi S) fun ds S1 => wo (forF bind F ds S1) N R B C := wo_bindS
/-- a while loop by its invariant; the measure goes down -/
theorem wo_while (I : Nat → Sl → Prop) : ∀ {n m : Nat} {S : Sl}, I m S → m < n → (∀ m S, I m S → wp (fb S) fun b S1 => if b = true then wo (F S1) (fun S2 => ∃ m', m' < m ∧ I m' S2) R N (fun S2 => ∃ m', m' < m ∧ I m' S2) else N S1) → wo (whileF fb F n S) N R B C
  | 0, m, S, _, h, _ => absurd h (Nat.not_lt_zero m)
  | n + 1, m, S, h, hm, k => by
    have q := k m S h
    unfold whileF
    rw [wo_bindS]
    refine wp_mono q fun b S1 q1 => ?_
    cases b with
    | false => exact q1
    | true =>
      simp only [if_true] at q1 ⊢
      cases eo : F S1 with
      | nx S2 =>
        rw [eo] at q1
        obtain ⟨m', h1, h2⟩ := q1
        exact wo_while I h2 (by omega) k
      | ct S2 =>
        rw [eo] at q1
        obtain ⟨m', h1, h2⟩ := q1
        exact wo_while I h2 (by omega) k
      | bk S2 => rw [eo] at q1; exact q1
      | rt r S2 => rw [eo] at q1; exact q1
      | ex x S2 => rw [eo] at q1; exact q1.elim
      | no => rw [eo] at q1; exact q1.elim
/-! expressions -/
theorem wp_frz {P : NV → Sl → Prop} : wp (frz f S) P = wp (f S) fun r S1 => P r.frz S1 := wp_bind
theorem wp_C {d : D} : wp (fC d S) P = P (.f d) S := rfl
theorem wp_op {op : D → D → Option RV} : wp (fOp op f1 g1 S) P = wp (f1 S) fun a S1 => wp (g1 S1) fun b S2 => oP (view S2 a) fun d => oP (view S2 b) fun e => oP (op d e) fun o => P o S2 := by
  unfold fOp
  rw [wp_bind]
  congr
  funext a S1
  rw [wp_bind]
  congr
  funext b S2
  unfold lift2
  cases view S2 a with
  | none => rfl
  | some d =>
    cases view S2 b with
    | none => rfl
    | some e =>
      show wp (match op d e with | some o => .ok o S2 | none => .no) P = oP (op d e) fun o => P o S2
      cases op d e <;> rfl
theorem wp_cons {P : List NV → Sl → Prop} : wp (fCons f1 fa S) P = wp (f1 S) fun n S1 => wp (fa S1) fun ns S2 => P (n :: ns) S2 := by
  unfold fCons
  rw [wp_bind]
  congr
  funext a S1
  rw [wp_bind]
  rfl
theorem wp_nil {P : List NV → Sl → Prop} : wp (fNil S) P = P [] S := rfl
theorem wp_cb {op : List D → Option RV} : wp (fCB op fa S) P = wp (fa S) fun ns S1 => oP (views S1 ns) fun ds => oP (op ds) fun o => P o S1 := by
  unfold fCB
  rw [wp_bind]
  congr
  funext ns S1
  unfold liftA
  cases views S1 ns with
  | none => rfl
  | some ds =>
    show wp (match op ds with | some o => .ok o S1 | none => .no) P = oP (op ds) fun o => P o S1
    cases op ds <;> rfl
theorem wp_B {P : Bool → Sl → Prop} : wp (fB f1 S) P = wp (f1 S) fun n S1 => wp (bOf n S1) P := wp_bind
theorem wp_bOf {b : Bool} {P : Bool → Sl → Prop} : wp (bOf (.f (.bl b)) S) P = P b S := rfl
theorem wp_And {P : Bool → Sl → Prop} : wp (fAnd fb gb S) P = wp (fb S) fun b S1 => if b = true then wp (gb S1) P else P false S1 := by
  unfold fAnd
  rw [wp_bind]
  congr
  funext b S1
  cases b <;> rfl
theorem wp_Or {P : Bool → Sl → Prop} : wp (fOr fb gb S) P = wp (fb S) fun b S1 => if b = true then P true S1 else wp (gb S1) P := by
  unfold fOr
  rw [wp_bind]
  congr
  funext b S1
  cases b <;> rfl
theorem wp_Not {P : Bool → Sl → Prop} : wp (fNot fb S) P = wp (fb S) fun b S1 => P (!b) S1 := wp_bind
theorem wp_If : wp (fIf fb f g S) P = wp (fb S) fun b S1 => if b = true then wp (f S1) P else wp (g S1) P := by
  unfold fIf
  rw [wp_bind]
  congr
  funext b S1
  cases b <;> rfl
theorem wp_AndV : wp (fAndV f1 g S) P = wp (f1 S) fun n S1 => wp (bOf n S1) fun b S2 => if b = true then wp (g S2) P else P (.f (.bl false)) S2 := by
  unfold fAndV
  rw [wp_bind]
  congr
  funext n S1
  rw [wp_bind]
  congr
  funext b S2
  cases b <;> rfl
theorem wp_OrV : wp (fOrV f1 g S) P = wp (f1 S) fun n S1 => wp (bOf n S1) fun b S2 => if b = true then P (.f (.bl true)) S2 else wp (g S2) P := by
  unfold fOrV
  rw [wp_bind]
  congr
  funext n S1
  rw [wp_bind]
  congr
  funext b S2
  cases b <;> rfl
theorem wp_NotV : wp (fNotV f1 S) P = wp (f1 S) fun n S1 => wp (bOf n S1) fun b S2 => P (.f (.bl !b)) S2 := by
  unfold fNotV
  rw [wp_bind]
  congr
  funext n S1
  rw [wp_bind]
  rfl
theorem wp_Chain {o o' : D → D → Option RV} : wp (fChain o o' f1 g1 h1 S) P = wp (f1 S) fun a S1 => wp (g1 S1) fun b S2 => oP (view S2 a) fun d => oP (view S2 b) fun e => oP (o d e) fun r => wp (bOf r.frz S2) fun k S4 =>
    if k = true then wp (h1 S4) fun c S5 => oP (view S5 b) fun d => oP (view S5 c) fun e => oP (o' d e) fun o => P o S5 else P (.f (.bl false)) S4 := by
  unfold fChain
  rw [wp_bind]
  congr
  funext a S1
  rw [wp_bind]
  congr
  funext b S2
  rw [wp_bind]
  have lf : ∀ {op : D → D → Option RV} {a b : NV} {S : Sl} {Q : RV → Sl → Prop}, wp (lift2 op a b S) Q = oP (view S a) fun d => oP (view S b) fun e => oP (op d e) fun o => Q o S := by
    intro op a b S Q
    unfold lift2
    cases view S a with
    | none => rfl
    | some d =>
      cases view S b with
      | none => rfl
      | some e =>
        show wp (match op d e with | some o => .ok o S | none => .no) Q = oP (op d e) fun o => Q o S
        cases op d e <;> rfl
  rw [lf]
  congr
  funext d
  congr
  funext e
  congr
  funext r
  rw [wp_bind]
  congr
  funext k S4
  cases k with
  | false => rfl
  | true =>
    simp only [if_true]
    rw [wp_bind]
    congr
    funext c S5
    exact lf
theorem wp_Lst : wp (fLst fa S) P = wp (fa S) fun ns S1 => oP (dsOf ns) fun ds => ds.length ≤ 100000 ∧ P (.ol ds) S1 := by
  unfold fLst
  rw [wp_bind]
  congr
  funext ns S1
  unfold mkL
  cases dsOf ns with
  | none => rfl
  | some ds => exact wp_ifno
theorem wp_Tup : wp (fTup fa S) P = wp (fa S) fun ns S1 => oP (dsOf ns) fun ds => ds.length ≤ 100000 ∧ P (.f (.tup ds)) S1 := by
  unfold fTup
  rw [wp_bind]
  congr
  funext ns S1
  unfold mkT
  cases dsOf ns with
  | none => rfl
  | some ds => exact wp_ifno
theorem wp_Asg {bind : D → Sl → Option Sl} : wo (sAsg bind f1 S) N R B C = wp (f1 S) fun n S1 => oP (dOf n) fun d => oP (bind d S1) N := by
  unfold sAsg
  rw [wo_bindS]
  congr
  funext n S1
  cases n with
  | bo i => rfl
  | f d =>
    show wo (match bind d S1 with | some S2 => .nx S2 | none => .no) N R B C = oP (bind d S1) N
    cases bind d S1 <;> rfl
/-! ### calls -/
/-- a def that is handed data -/
def wpF (F : Sl → Rs RV) (ds : List D) (P : RV → Prop) : Prop := ∃ r S', F (ds.map .f) = .ok r S' ∧ (∀ i, r ≠ .bo i) ∧ P r
/-- a def that is lent a list ds first -/
def wpB (F : Sl → Rs RV) (ds es : List D) (P : RV → List D → Prop) : Prop := ∃ r S' ds', F (.ol (some 0) ds :: es.map .f) = .ok r S' ∧ S'[(0 : Nat)]? = some (.ol (some 0) ds') ∧ (∀ i, r ≠ .bo i) ∧ P r ds'
theorem wp_Call {F : Sl → Rs RV} (h : wp (fa S) fun ns S1 => oP (dsOf ns) fun ds => wpF F ds fun r => P r S1) : wp (fCall F fa S) P := by
  unfold fCall
  rw [wp_bind]
  refine wp_mono h fun ns S1 q => ?_
  cases e : dsOf ns with
  | none => rw [e] at q; exact q.elim
  | some ds =>
    rw [e] at q
    obtain ⟨r, S', e1, nb, q⟩ := q
    simp only [e1]
    cases r with
    | bo i => exact absurd rfl (nb i)
    | f d => exact q
    | ol d => exact q
    | od k d => exact q
/-- the slot that is lent -/
def lent (ns : List NV) (S : Sl) (P : Nat → Option Nat → List D → List D → Prop) : Prop := match ns with
  | .bo i :: rest => (match S[i]? with
    | some (.ol t ds) => oP (dsOf rest) fun es => P i t ds es
    | _ => False)
  | _ => False
theorem wp_CallB {F : Sl → Rs RV} (h : wp (fa S) fun ns S1 => lent ns S1 fun i t ds es => wpB F ds es fun r ds' => P r (S1.set i (.ol t ds'))) : wp (fCallB F fa S) P := by
  unfold fCallB
  rw [wp_bind]
  refine wp_mono h fun ns S1 q => ?_
  cases ns with
  | nil => exact q.elim
  | cons n rest =>
    cases n with
    | f d => exact q.elim
    | bo i =>
      unfold lent at q
      simp only at q ⊢
      cases e : S1[i]? with
      | none => rw [e] at q; exact q.elim
      | some sv =>
        rw [e] at q
        cases sv with
        | u => exact q.elim
        | f d => exact q.elim
        | od t k d => exact q.elim
        | ol t ds =>
          cases e2 : dsOf rest with
          | none => rw [e2] at q; exact q.elim
          | some es =>
            rw [e2] at q
            obtain ⟨r, S', ds', h1, h2, nb, q⟩ := q
            simp only [h1, putBack, h2]
            cases r with
            | bo i => exact absurd rfl (nb i)
            | f d => exact q
            | ol d => exact q
            | od k d => exact q
/-! a def by its body -/
theorem wpF_body {m : Nat} {Bd : Sl → Out} {ds : List D} {P : RV → Prop} (h : wo (Bd (ds.map .f ++ List.replicate m .u)) (fun _ => P (.f .non)) (fun r _ => (∀ i, r ≠ .bo i) ∧ P r) (fun _ => False) (fun _ => False)) : wpF (bodyF0 m Bd) ds P := by
  unfold bodyF0 wpF
  have h0 : isOwn0 ((ds.map SV.f)[(0 : Nat)]?) = false := by cases ds <;> rfl
  cases e : Bd (ds.map .f ++ List.replicate m .u) with
  | nx S' =>
    rw [e] at h
    exact ⟨.f .non, S', by simp only [e, chk, h0, Bool.false_and]; rfl, (fun _ z => nomatch z), h⟩
  | rt r S' =>
    rw [e] at h
    refine ⟨r, S', ?_, h.1, h.2⟩
    simp only [e, chk, h0, Bool.false_and]
    cases r with
    | bo i => exact absurd rfl (h.1 i)
    | f d => rfl
    | ol d => rfl
    | od k d => rfl
  | bk S' => rw [e] at h; exact h.elim
  | ct S' => rw [e] at h; exact h.elim
  | ex x S' => rw [e] at h; exact h.elim
  | no => rw [e] at h; exact h.elim
def own0 (S : Sl) (P : List D → Prop) : Prop := match S[(0 : Nat)]? with
  | some (.ol (some 0) ds) => P ds
  | _ => False
theorem wpB_body {m : Nat} {Bd : Sl → Out} {ds es : List D} {P : RV → List D → Prop} (h : wo (Bd (.ol (some 0) ds :: (es.map .f ++ List.replicate m .u))) (fun S => own0 S fun ds' => P (.f .non) ds') (fun r S => (∀ i, r ≠ .bo i) ∧ own0 S fun ds' => P r ds') (fun _ => False) (fun _ => False)) :
    wpB (bodyF0 m Bd) ds es P := by
  unfold bodyF0 wpB
  have at0 : ∀ {S' : Sl} {Q : List D → Prop}, own0 S' Q → ∃ ds', S'[(0 : Nat)]? = some (.ol (some 0) ds') ∧ Q ds' := by
    intro S' Q q
    unfold own0 at q
    split at q
    · rename_i ds' e
      exact ⟨ds', e, q⟩
    · exact q.elim
  show ∃ r S' ds', (match Bd (.ol (some 0) ds :: (es.map .f ++ List.replicate m .u)) with
    | .rt r S' => chk (.ol (some 0) ds :: es.map .f) S' (noBo r S')
    | .nx S' => chk (.ol (some 0) ds :: es.map .f) S' (.ok (.f .non) S')
    | _ => .no) = Rs.ok r S' ∧ S'[(0 : Nat)]? = some (.ol (some 0) ds') ∧ (∀ i, r ≠ .bo i) ∧ P r ds'
  cases e : Bd (.ol (some 0) ds :: (es.map .f ++ List.replicate m .u)) with
  | nx S' =>
    rw [e] at h
    obtain ⟨ds', e1, q⟩ := at0 h
    exact ⟨.f .non, S', ds', by simp only [e, chk, e1, isOwn0]; rfl, e1, (fun _ z => nomatch z), q⟩
  | rt r S' =>
    rw [e] at h
    obtain ⟨ds', e1, q⟩ := at0 h.2
    refine ⟨r, S', ds', ?_, e1, h.1, q⟩
    simp only [e, chk, e1, isOwn0]
    cases r with
    | bo i => exact absurd rfl (h.1 i)
    | f d => rfl
    | ol d => rfl
    | od k d => rfl
  | bk S' => rw [e] at h; exact h.elim
  | ct S' => rw [e] at h; exact h.elim
  | ex x S' => rw [e] at h; exact h.elim
  | no => rw [e] at h; exact h.elim
end
end DL
set_option Elab.async false
set_option linter.all false
set_option maxRecDepth 100000
set_option maxHeartbeats 4000000
/-! DL19: more of what is wished for: names, stores, slices, comprehensions, ranges. -/
namespace DL
open PySem L2
section
variable {f g : Sl → Rs RV} {f1 g1 h1 : Sl → Rs NV} {fb gb : Sl → Rs Bool} {fa : Sl → Rs (List NV)} {S : Sl} {F G : Sl → Out} {N : Sl → Prop} {R : RV → Sl → Prop} {B C : Sl → Prop} {P : RV → Sl → Prop} {i j : Nat}
def atV (S : Sl) (i : Nat) (P : RV → Prop) : Prop := match S[i]? with
  | some (.f d) => P (.f d)
  | some (.ol _ _) => P (.bo i)
  | some (.od _ _ _) => P (.bo i)
  | _ => False
theorem wp_Var : wp (fVar i S) P = match S[i]? with
  | some (.f d) => P (.f d) S
  | some (.ol _ _) => P (.bo i) S
  | some (.od _ _ _) => P (.bo i) S
  | _ => False := by
  unfold fVar
  cases S[i]? with
  | none => rfl
  | some sv => cases sv <;> rfl
theorem wp_VarF : wp (fVarF i S) P = match S[i]? with
  | some (.f d) => P (.f d) S
  | some (.ol none ds) => P (.f (.lst ds)) (S.set i (.f (.lst ds)))
  | some (.od none ks ds) => P (.f (.dic ks ds)) (S.set i (.f (.dic ks ds)))
  | _ => False := by
  unfold fVarF
  cases S[i]? with
  | none => rfl
  | some sv =>
    cases sv with
    | u => rfl
    | f d => rfl
    | ol t ds => cases t <;> rfl
    | od t k d => cases t <;> rfl
theorem wp_iOf {b : Int} {P : Int → Sl → Prop} : wp (iOf (.f (.int b)) S) P = P b S := rfl
theorem wp_rng1 {b : Int} {P : List D → Sl → Prop} : wp (rng1 [.f (.int b)] S) P = ((-(2 ^ 62) ≤ b ∧ b < 2 ^ 62) ∧ P (intsFrom 0 b.toNat) S) := by
  show wp (if inR b = true then .ok (intsFrom 0 b.toNat) S else .no) P = _
  rw [wp_ifno]
  exact propext (and_congr_left fun _ => inR_iff)
/-- xs[k] = d -/
def putAt (j : Nat) (n m : NV) (S : Sl) (N : Sl → Prop) : Prop := match n, m with
  | .f d, .f (.int k) => (match S[j]? with
    | some (.ol t ds) => oP (ixN ds.length k) fun q => N (S.set j (.ol t (ds.set q d)))
    | _ => False)
  | _, _ => False
theorem wp_Put : wo (sPutIx j f1 g1 S) N R B C = wp (g1 S) fun n S1 => wp (fVar j S1) fun _ S2 => wp (f1 S2) fun m S3 => putAt j n m S3 N := by
  unfold sPutIx
  rw [wo_bindS]
  congr
  funext n S1
  rw [wo_bindS]
  congr
  funext _ S2
  rw [wo_bindS]
  congr
  funext m S3
  unfold putAt
  cases n with
  | bo i => rfl
  | f d =>
    cases m with
    | bo i => rfl
    | f dk =>
      cases dk <;> try rfl
      rename_i k
      simp only
      cases S3[j]? with
      | none => rfl
      | some sv =>
        cases sv with
        | u => rfl
        | f d => rfl
        | od t ks ds => rfl
        | ol t ds =>
          simp only
          cases ixN ds.length k <;> rfl
theorem wp_lift2 {op : D → D → Option RV} {a b : NV} : wp (lift2 op a b S) P = oP (view S a) fun d => oP (view S b) fun e => oP (op d e) fun o => P o S := by
  unfold lift2
  cases view S a with
  | none => rfl
  | some d =>
    cases view S b with
    | none => rfl
    | some e =>
      show wp (match op d e with | some o => .ok o S | none => .no) P = oP (op d e) fun o => P o S
      cases op d e <;> rfl
theorem wp_StrM {op : D → D → Option RV} : wp (fStrM op f1 g1 S) P = wp (f1 S) fun a S1 => isStr a = true ∧ wp (g1 S1) fun b S2 => oP (view S2 a) fun d => oP (view S2 b) fun e => oP (op d e) fun o => P o S2 := by
  unfold fStrM
  rw [wp_bind]
  refine congrArg (wp (f1 S)) ?_
  funext a S1
  rw [wp_ifno, wp_bind]
  refine congrArg (fun z => isStr a = true ∧ wp (g1 S1) z) ?_
  funext b S2
  exact wp_lift2
/-! methods of own lists -/
def ownAt (S : Sl) (j : Nat) (P : Option Nat → List D → Prop) : Prop := match S[j]? with
  | some (.ol t ds) => P t ds
  | _ => False
theorem wp_Own {k : List NV → Option Nat → List D → Sl → Rs RV} : wp (fOwn j fa k S) P = (isOl (S[j]?) = true ∧ wp (fa S) fun ns S2 => ownAt S2 j fun t ds => wp (k ns t ds S2) P) := by
  unfold fOwn
  rw [wp_ifno, wp_bind]
  refine congrArg (fun z => isOl (S[j]?) = true ∧ wp (fa S) z) ?_
  funext ns S2
  unfold ownAt
  cases S2[j]? with
  | none => rfl
  | some sv => cases sv <;> rfl
theorem wp_App {d : D} {t : Option Nat} {ds : List D} : wp (kAppend j [.f d] t ds S) P = (ds.length < 100000 ∧ P (.f .non) (S.set j (.ol t (ds ++ [d])))) := by
  show wp (if ds.length < 100000 then .ok (.f .non) (S.set j (.ol t (ds ++ [d]))) else .no) P = _
  exact wp_ifno
theorem wp_Sl {l u : Sl → Rs (Option Int)} : wp (fSl f1 l u S) P = wp (f1 S) fun n S1 => wp (l S1) fun lo S2 => wp (u S2) fun hi S3 => oP (view S3 n) fun d => oP (oSl d lo hi) fun o => P o S3 := by
  unfold fSl
  rw [wp_bind]
  congr
  funext n S1
  rw [wp_bind]
  congr
  funext lo S2
  rw [wp_bind]
  congr
  funext hi S3
  cases view S3 n with
  | none => rfl
  | some d =>
    show wp (match oSl d lo hi with | some o => .ok o S3 | none => .no) P = oP (oSl d lo hi) fun o => P o S3
    cases oSl d lo hi <;> rfl
theorem wp_Lc {vs : List Nat} {fi : Sl → Rs (List D)} {bind : D → Sl → Option Sl} : wp (fLc vs fi bind fb f1 S) P = wp (fi S) fun ds S1 => wp (lcF vs bind fb f1 ds [] (wipeS S1 vs)) P := by
  unfold fLc
  exact wp_bind
/-- a comprehension by its invariant: what is left, what is made, the slots -/
theorem wp_lcF {vs : List Nat} {bind : D → Sl → Option Sl} (I : List D → List D → Sl → Prop) : ∀ {ds acc : List D} {S : Sl}, I ds acc S → acc.length + ds.length ≤ 100000 →
    (∀ d r acc S, I (d :: r) acc S → oP (bind d S) fun S1 => wp (fb S1) fun b S2 => if b = true then wp (f1 S2) fun n S3 => oP (dOf n) fun x => I r (acc ++ [x]) (wipeS S3 vs) else I r acc (wipeS S2 vs)) →
    (∀ acc S, I [] acc S → P (.ol acc) S) → wp (lcF vs bind fb f1 ds acc S) P
  | [], acc, S, h, _, _, e => e acc S h
  | d :: r, acc, S, h, hl, k, e => by
    have q := k d r acc S h
    unfold lcF
    cases eb : bind d S with
    | none => rw [eb] at q; exact q.elim
    | some S1 =>
      rw [eb] at q
      have q' : wp (fb S1) _ := q
      simp only
      cases eo : fb S1 with
      | no => rw [eo] at q'; exact q'.elim
      | ex x S2 => rw [eo] at q'; exact q'.elim
      | ok b S2 =>
        rw [eo] at q'
        simp only [List.length_cons] at hl
        cases b with
        | false => exact wp_lcF I (show I r acc (wipeS S2 vs) from q') (by omega) k e
        | true =>
          have q2 : wp (f1 S2) fun n S3 => oP (dOf n) fun x => I r (acc ++ [x]) (wipeS S3 vs) := q'
          simp only
          cases ef : f1 S2 with
          | no => rw [ef] at q2; exact q2.elim
          | ex x S3 => rw [ef] at q2; exact q2.elim
          | ok n S3 =>
            rw [ef] at q2
            cases n with
            | bo i => exact q2.elim
            | f x =>
              simp only
              rw [if_pos (by omega)]
              exact wp_lcF I (show I r (acc ++ [x]) (wipeS S3 vs) from q2) (by simp; omega) k e
end
/-! ### stores in parallel -/
section
variable {f : Sl → Rs RV} {fa : Sl → Rs (List RV)} {S : Sl} {N : Sl → Prop} {R : RV → Sl → Prop} {B C : Sl → Prop}
theorem wp_nilR {P : List RV → Sl → Prop} : wp (fNilR S) P = P [] S := rfl
theorem wp_consR {P : List RV → Sl → Prop} : wp (fConsR f fa S) P = wp (f S) fun n S1 => wp (fa S1) fun ns S2 => P (n :: ns) S2 := by
  unfold fConsR
  rw [wp_bind]
  congr
  funext a S1
  rw [wp_bind]
  rfl
theorem wp_Par {is : List Nat} : wo (sPar is fa S) N R B C = wp (fa S) fun rs S1 => oP (setsR is rs S1) N := by
  unfold sPar
  rw [wo_bindS]
  congr
  funext rs S1
  cases setsR is rs S1 <;> rfl
end
/-! ### the box that numbers are taken from -/
def Bx (n : Int) (ds : List D) : Prop := ∃ a b c : Int, ds = [.int a, .int b, .int c] ∧ 0 ≤ a ∧ 0 ≤ b ∧ b < 2147483629 ∧ 0 ≤ c ∧ c ≤ n
theorem Bx.mono {n m : Int} {ds : List D} (h : Bx n ds) (l : n ≤ m) : Bx m ds := let ⟨a, b, c, e, h1, h2, h3, h4, h5⟩ := h; ⟨a, b, c, e, h1, h2, h3, h4, Int.le_trans h5 l⟩
theorem ix0 {n : Nat} : ixN (n + 1) 0 = some 0 := by
  unfold ixN
  rw [if_pos (by decide), if_pos (by omega)]
  rfl
theorem atI_nat {α : Type} {xs : List α} {i : Int} (h0 : 0 ≤ i) (h : i < xs.length) : atI xs i = xs[i.toNat]? := by
  unfold atI ixN
  rw [if_pos h0, if_pos h]
  rfl
theorem oP_at {xs : List D} {i : Int} {P : D → Prop} (h0 : 0 ≤ i) (h : i < xs.length) (k : ∀ d ∈ xs, xs[i.toNat]? = some d → P d) : oP (atI xs i) P := by
  rw [atI_nat h0 h]
  have hl : i.toNat < xs.length := by omega
  rw [List.getElem?_eq_getElem hl]
  exact k _ (List.getElem_mem hl) (List.getElem?_eq_getElem hl)
end DL
set_option Elab.async false
set_option linter.all false
set_option maxRecDepth 100000
set_option maxHeartbeats 4000000
/-! DL20: calls as equations, tables, stars, equality of data. -/
namespace DL
open PySem L2
section
variable {f g : Sl → Rs RV} {f1 g1 h1 : Sl → Rs NV} {fb gb : Sl → Rs Bool} {fa : Sl → Rs (List NV)} {S : Sl} {F G : Sl → Out} {N : Sl → Prop} {R : RV → Sl → Prop} {B C : Sl → Prop} {P : RV → Sl → Prop} {i j : Nat}
theorem wpF_mono {F : Sl → Rs RV} {ds : List D} {P Q : RV → Prop} (h : wpF F ds P) (k : ∀ r, P r → Q r) : wpF F ds Q := by
  obtain ⟨r, S', h1, h2, h3⟩ := h
  exact ⟨r, S', h1, h2, k r h3⟩
theorem wpB_mono {F : Sl → Rs RV} {ds es : List D} {P Q : RV → List D → Prop} (h : wpB F ds es P) (k : ∀ r d, P r d → Q r d) : wpB F ds es Q := by
  obtain ⟨r, S', ds', h1, h2, h3, h4⟩ := h
  exact ⟨r, S', ds', h1, h2, h3, k r ds' h4⟩
/-- what a def hands back for sure -/
theorem wpF_det {F : Sl → Rs RV} {ds : List D} {v : RV} (h : wpF F ds (· = v)) {P : RV → Prop} : wpF F ds P = P v := by
  obtain ⟨r, S', h1, h2, rfl⟩ := h
  refine propext ⟨fun ⟨r', S2, e1, e2, q⟩ => ?_, fun q => ⟨r, S', h1, h2, q⟩⟩
  rw [h1] at e1
  cases e1
  exact q
theorem wp_CallE {F : Sl → Rs RV} : wp (fCall F fa S) P = wp (fa S) fun ns S1 => oP (dsOf ns) fun ds => wpF F ds fun r => P r S1 := by
  refine propext ⟨fun h => ?_, wp_Call⟩
  unfold fCall at h
  rw [wp_bind] at h
  refine wp_mono h fun ns S1 q => ?_
  cases e : dsOf ns with
  | none => rw [e] at q; exact q.elim
  | some ds =>
    simp only [e] at q
    rw [oP_some]
    cases e1 : F (ds.map .f) with
    | no => rw [e1] at q; exact q.elim
    | ex x S' => rw [e1] at q; exact q.elim
    | ok r S' =>
      rw [e1] at q
      cases r with
      | bo i => exact q.elim
      | f d => exact ⟨_, S', e1, (fun _ z => nomatch z), q⟩
      | ol d => exact ⟨_, S', e1, (fun _ z => nomatch z), q⟩
      | od k d => exact ⟨_, S', e1, (fun _ z => nomatch z), q⟩
theorem wp_CallBE {F : Sl → Rs RV} : wp (fCallB F fa S) P = wp (fa S) fun ns S1 => lent ns S1 fun i t ds es => wpB F ds es fun r ds' => P r (S1.set i (.ol t ds')) := by
  refine propext ⟨fun h => ?_, wp_CallB⟩
  unfold fCallB at h
  rw [wp_bind] at h
  refine wp_mono h fun ns S1 q => ?_
  unfold lent
  cases ns with
  | nil => exact q.elim
  | cons n rest =>
    cases n with
    | f d => exact q.elim
    | bo i =>
      simp only at q ⊢
      cases e : S1[i]? with
      | none => rw [e] at q; exact q.elim
      | some sv =>
        rw [e] at q
        cases sv with
        | u => exact q.elim
        | f d => exact q.elim
        | od t k d => exact q.elim
        | ol t ds =>
          cases e2 : dsOf rest with
          | none => rw [e2] at q; exact q.elim
          | some es =>
            rw [e2] at q
            simp only at q ⊢
            rw [oP_some]
            cases e3 : F (.ol (some 0) ds :: es.map .f) with
            | no => rw [e3] at q; exact q.elim
            | ex x S' =>
              rw [e3] at q
              simp only [putBack] at q
              split at q <;> exact q.elim
            | ok r S' =>
              rw [e3] at q
              simp only [putBack] at q
              split at q
              · rename_i ds' e4
                cases r with
                | bo i => exact q.elim
                | f d => exact ⟨_, S', ds', e3, e4, (fun _ z => nomatch z), q⟩
                | ol d => exact ⟨_, S', ds', e3, e4, (fun _ z => nomatch z), q⟩
                | od k d => exact ⟨_, S', ds', e3, e4, (fun _ z => nomatch z), q⟩
              · exact q.elim
theorem wp_Disp {tab : List (Str × (Sl → Rs RV))} : wp (fDisp tab f1 fa S) P = wp (f1 S) fun n S1 => match n with
    | .f (.str z) => oP (tab.lookup z) fun F => wp (fCall F fa S1) P
    | _ => False := by
  unfold fDisp
  rw [wp_bind]
  refine congrArg (wp (f1 S)) ?_
  funext n S1
  cases n with
  | bo i => rfl
  | f d =>
    cases d <;> try rfl
    rename_i z
    simp only
    cases tab.lookup z <;> rfl
theorem wp_Star : wo (sStar i j f1 S) N R B C = wp (f1 S) fun n S1 => match n with
    | .f (.tup (d :: ds)) => ds.length ≤ 16000 ∧ N ((S1.set i (.f d)).set j (.ol none ds))
    | _ => False := by
  unfold sStar
  rw [wo_bindS]
  refine congrArg (wp (f1 S)) ?_
  funext n S1
  cases n with
  | bo i => rfl
  | f d =>
    cases d <;> try rfl
    rename_i ds
    cases ds with
    | nil => rfl
    | cons d ds =>
      simp only
      rw [wo_ite]
      by_cases h : ds.length ≤ 16000
      · simp only [h, if_true, true_and]; rfl
      · simp only [h, if_false, false_and]; rfl
theorem wp_InT {neg : Bool} {ks : List Str} : wp (fInT neg ks f1 S) P = wp (f1 S) fun n S1 => wp (fInT neg ks (fun S => .ok n S) S1) P := by
  unfold fInT
  rw [wp_bind]
  rfl
theorem wp_Pick {is : List Nat} {P : List NV → Sl → Prop} : wp (fPick is fa S) P = wp (fa S) fun ns S1 => P (pick is ns) S1 := by
  unfold fPick
  rw [wp_bind]
  rfl
end
/-! ### equality -/
theorem eqD_sc {d e : D} {x y : V} {neg : Bool} (h1 : sc d = some x) (h2 : sc e = some y) (hs : scal x y = true) : eqD neg d e = some (.f (.bl (if neg = true then !decide (x = y) else decide (x = y)))) := by
  unfold eqD
  simp only [h1, h2, hs, if_true]
theorem eqD_int {i j : Int} : eqD false (.int i) (.int j) = some (.f (.bl (decide (i = j)))) := by
  rw [eqD_sc rfl rfl rfl]
  simp
theorem neD_int {i j : Int} : eqD true (.int i) (.int j) = some (.f (.bl (!decide (i = j)))) := by
  rw [eqD_sc rfl rfl rfl]
  simp
theorem eqD_str {x y : Str} : eqD false (.str x) (.str y) = some (.f (.bl (decide (x = y)))) := by
  rw [eqD_sc rfl rfl rfl]
  simp
theorem neD_str {x y : Str} : eqD true (.str x) (.str y) = some (.f (.bl (!decide (x = y)))) := by
  rw [eqD_sc rfl rfl rfl]
  simp
theorem eqD_bl {x y : Bool} : eqD false (.bl x) (.bl y) = some (.f (.bl (decide (x = y)))) := by
  rw [eqD_sc rfl rfl rfl]
  simp
theorem neD_bl {x y : Bool} : eqD true (.bl x) (.bl y) = some (.f (.bl (!decide (x = y)))) := by
  rw [eqD_sc rfl rfl rfl]
  simp
theorem eqD_ns {x : Str} : eqD false .non (.str x) = some (.f (.bl false)) := by
  rw [eqD_sc rfl rfl rfl]
  simp
theorem neD_ns {x : Str} : eqD true .non (.str x) = some (.f (.bl true)) := by
  rw [eqD_sc rfl rfl rfl]
  simp
theorem eqD_sn {x : Str} : eqD false (.str x) .non = some (.f (.bl false)) := by
  rw [eqD_sc rfl rfl rfl]
  simp
theorem neD_sn {x : Str} : eqD true (.str x) .non = some (.f (.bl true)) := by
  rw [eqD_sc rfl rfl rfl]
  simp
theorem eqD_nn : eqD false .non .non = some (.f (.bl true)) := by
  rw [eqD_sc rfl rfl rfl]
  simp
theorem neD_nn : eqD true .non .non = some (.f (.bl false)) := by
  rw [eqD_sc rfl rfl rfl]
  simp
/-- rows are told apart as data -/
theorem eqD_of {d e : D} {p q : PyData} (h0 : sc d = none) (h1 : py d = some p) (h2 : py e = some q) (s1 : SeqAt.shaped p = true) (s2 : SeqAt.shaped q = true) (neg : Bool) : eqD neg d e = some (.f (.bl (if neg = true then !PyData.eqv p q else PyData.eqv p q))) := by
  unfold eqD eqD0
  simp only [h0, h1, h2, s1, s2, and_self, if_true]
/-! ### items by a written number -/
theorem ixN_lit {n k : Nat} (h : k < n) : ixN n (k : Int) = some k := by
  unfold ixN
  rw [if_pos (by omega), if_pos (by omega)]
  simp
theorem atI_0 {α : Type} {x : α} {xs : List α} : atI (x :: xs) 0 = some x := by
  unfold atI
  rw [show ixN (x :: xs).length 0 = some 0 from ixN_lit (n := (x :: xs).length) (k := 0) (by simp)]
  rfl
theorem atI_1 {α : Type} {x y : α} {xs : List α} : atI (x :: y :: xs) 1 = some y := by
  unfold atI
  rw [show ixN (x :: y :: xs).length 1 = some 1 from ixN_lit (n := (x :: y :: xs).length) (k := 1) (by simp)]
  rfl
theorem atI_2 {α : Type} {x y z : α} {xs : List α} : atI (x :: y :: z :: xs) 2 = some z := by
  unfold atI
  rw [show ixN (x :: y :: z :: xs).length 2 = some 2 from ixN_lit (n := (x :: y :: z :: xs).length) (k := 2) (by simp)]
  rfl
theorem atI_3 {α : Type} {x y z w : α} {xs : List α} : atI (x :: y :: z :: w :: xs) 3 = some w := by
  unfold atI
  rw [show ixN (x :: y :: z :: w :: xs).length 3 = some 3 from ixN_lit (n := (x :: y :: z :: w :: xs).length) (k := 3) (by simp)]
  rfl
theorem ixN_0 {n : Nat} : ixN (n + 1) 0 = some 0 := ixN_lit (n := n + 1) (k := 0) (by omega)
theorem ixN_1 {n : Nat} : ixN (n + 1 + 1) 1 = some 1 := ixN_lit (n := n + 2) (k := 1) (by omega)
theorem ixN_2 {n : Nat} : ixN (n + 1 + 1 + 1) 2 = some 2 := ixN_lit (n := n + 3) (k := 2) (by omega)
theorem cRepr_lst {ds : List D} (h : okRp (.lst ds) = true) : cRepr [.lst ds] = some (.f (.str (rp (.lst ds)))) := by
  unfold cRepr
  exact if_pos h
theorem cRepr_tup {ds : List D} (h : okRp (.tup ds) = true) : cRepr [.tup ds] = some (.f (.str (rp (.tup ds)))) := by
  unfold cRepr
  exact if_pos h
end DL
set_option Elab.async false
set_option linter.all false
set_option maxRecDepth 100000
set_option maxHeartbeats 4000000
/-! DL21: the wish calculus, step by step from the front. -/
namespace DL
open PySem L2
section
variable {f g : Sl → Rs RV} {f1 g1 h1 : Sl → Rs NV} {fb gb : Sl → Rs Bool} {fa : Sl → Rs (List NV)} {S : Sl} {F G : Sl → Out} {N : Sl → Prop} {R : RV → Sl → Prop} {B C : Sl → Prop} {P : RV → Sl → Prop} {i j : Nat}
theorem oP_i {α : Type} {o : Option α} {x : α} {P : α → Prop} (h : o = some x) (k : P x) : oP o P := by rw [h]; exact k
theorem oP_c {α : Type} {c : Prop} [Decidable c] {x : α} {P : α → Prop} (h : c) (k : P x) : oP (if c then some x else none) P := by rw [if_pos h]; exact k
theorem ite_t {b : Bool} {A B : Prop} (h : b = true) (k : A) : if b = true then A else B := by rw [if_pos h]; exact k
theorem ite_f {b : Bool} {A B : Prop} (h : b = false) (k : B) : if b = true then A else B := by rw [if_neg (by rw [h]; decide)]; exact k
theorem ite_b {b : Bool} {A B : Prop} (k1 : b = true → A) (k2 : b = false → B) : if b = true then A else B := by
  cases b with
  | true => rw [if_pos rfl]; exact k1 rfl
  | false => rw [if_neg (by decide)]; exact k2 rfl
theorem ite_d {c : Prop} [Decidable c] {A B : Prop} (k1 : c → A) (k2 : ¬ c → B) : if decide c = true then A else B := by
  by_cases h : c
  · rw [if_pos (by simpa using h)]; exact k1 h
  · rw [if_neg (by simpa using h)]; exact k2 h
theorem ite_nd {c : Prop} [Decidable c] {A B : Prop} (k1 : ¬ c → A) (k2 : c → B) : if (!decide c) = true then A else B := by
  by_cases h : c
  · rw [if_neg (by simpa using h)]; exact k2 h
  · rw [if_pos (by simpa using h)]; exact k1 h
theorem i_Var {d : D} (h : S[i]? = some (.f d)) (k : P (.f d) S) : wp (fVar i S) P := by
  rw [wp_Var, h]
  exact k
theorem i_VarL {t : Option Nat} {ds : List D} (h : S[i]? = some (.ol t ds)) (k : P (.bo i) S) : wp (fVar i S) P := by
  rw [wp_Var, h]
  exact k
theorem i_VarD {t : Option Nat} {ks : List Key} {ds : List D} (h : S[i]? = some (.od t ks ds)) (k : P (.bo i) S) : wp (fVar i S) P := by
  rw [wp_Var, h]
  exact k
theorem i_VarF {d : D} (h : S[i]? = some (.f d)) (k : P (.f d) S) : wp (fVarF i S) P := by
  rw [wp_VarF, h]
  exact k
theorem i_VarFL {ds : List D} (h : S[i]? = some (.ol none ds)) (k : P (.f (.lst ds)) (S.set i (.f (.lst ds)))) : wp (fVarF i S) P := by
  rw [wp_VarF, h]
  exact k
theorem i_VarFD {ks : List Key} {ds : List D} (h : S[i]? = some (.od none ks ds)) (k : P (.f (.dic ks ds)) (S.set i (.f (.dic ks ds)))) : wp (fVarF i S) P := by
  rw [wp_VarF, h]
  exact k
theorem i_bOf {n : NV} {b : Bool} {P : Bool → Sl → Prop} (h : n = .f (.bl b)) (k : P b S) : wp (bOf n S) P := by rw [h]; exact k
theorem i_iOf {n : NV} {b : Int} {P : Int → Sl → Prop} (h : n = .f (.int b)) (k : P b S) : wp (iOf n S) P := by rw [h]; exact k
theorem i_anyL {n : NV} {ds : List D} {P : List D → Sl → Prop} (h : n = .f (.lst ds)) (k : P ds S) : wp (anyOf n S) P := by rw [h]; exact k
theorem i_anyT {n : NV} {ds : List D} {P : List D → Sl → Prop} (h : n = .f (.tup ds)) (k : P ds S) : wp (anyOf n S) P := by rw [h]; exact k
theorem i_items {n : NV} {ks : List Key} {ds : List D} {P : List D → Sl → Prop} (h : n = .f (.dic ks ds)) (k : P (itemsD ks ds) S) : wp (itemsOf n S) P := by rw [h]; exact k
theorem i_numL {ns : List NV} {ds : List D} {P : List D → Sl → Prop} (h : ns = [.f (.lst ds)]) (k : P (numbered 0 ds) S) : wp (numOfA ns S) P := by rw [h]; exact k
theorem i_numT {ns : List NV} {ds : List D} {P : List D → Sl → Prop} (h : ns = [.f (.tup ds)]) (k : P (numbered 0 ds) S) : wp (numOfA ns S) P := by rw [h]; exact k
theorem i_zip {ns : List NV} {ds es : List D} {P : List D → Sl → Prop} (h : ns = [.f (.lst ds), .f (.lst es)]) (k : P (zipped ds es) S) : wp (zipOf ns S) P := by rw [h]; exact k
theorem i_rng1 {ns : List NV} {b : Int} {P : List D → Sl → Prop} (h : ns = [.f (.int b)]) (hb : -(2 ^ 62) ≤ b ∧ b < 2 ^ 62) (k : P (intsFrom 0 b.toNat) S) : wp (rng1 ns S) P := by
  rw [h, wp_rng1]
  exact ⟨hb, k⟩
theorem i_rng2 {ns : List NV} {a b : Int} {P : List D → Sl → Prop} (h : ns = [.f (.int a), .f (.int b)]) (hb : -(2 ^ 62) ≤ a ∧ a < 2 ^ 62 ∧ -(2 ^ 62) ≤ b ∧ b < 2 ^ 62) (k : P (intsFrom a (b - a).toNat) S) : wp (rng2 ns S) P := by
  rw [h]
  unfold rng2
  simp only
  rw [if_pos ⟨inR_iff.mpr ⟨hb.1, hb.2.1⟩, inR_iff.mpr hb.2.2⟩]
  exact k
theorem i_App {ns : List NV} {d : D} {t : Option Nat} {ds : List D} (h : ns = [.f d]) (hl : ds.length < 100000) (k : P (.f .non) (S.set j (.ol t (ds ++ [d])))) : wp (kAppend j ns t ds S) P := by
  rw [h, wp_App]
  exact ⟨hl, k⟩
theorem i_Ext {ns : List NV} {es : List D} {t : Option Nat} {ds : List D} (h : ns = [.f (.lst es)]) (hl : ds.length + es.length ≤ 100000) (k : P (.f .non) (S.set j (.ol t (ds ++ es)))) : wp (kExtend j ns t ds S) P := by
  rw [h]
  unfold kExtend
  simp only
  rw [wp_ifno]
  exact ⟨hl, k⟩
theorem i_Pop {ns : List NV} {d : D} {t : Option Nat} {ds : List D} (h : ns = []) (hl : ds[ds.length - 1]? = some d) (k : P (.f d) (S.set j (.ol t ds.dropLast))) : wp (kPop j ns t ds S) P := by
  rw [h]
  unfold kPop
  simp only [hl]
  exact k
theorem i_ownAt {t : Option Nat} {ds : List D} {P : Option Nat → List D → Prop} (h : S[j]? = some (.ol t ds)) (k : P t ds) : ownAt S j P := by
  unfold ownAt
  rw [h]
  exact k
theorem i_Own {k : List NV → Option Nat → List D → Sl → Rs RV} (h : isOl (S[j]?) = true) (q : wp (fa S) fun ns S2 => ownAt S2 j fun t ds => wp (k ns t ds S2) P) : wp (fOwn j fa k S) P := by
  rw [wp_Own]
  exact ⟨h, q⟩
theorem i_put {n m : NV} {d : D} {k : Int} {t : Option Nat} {ds : List D} {q : Nat} (h1 : n = .f d) (h2 : m = .f (.int k)) (h3 : S[j]? = some (.ol t ds)) (h4 : ixN ds.length k = some q) (h : N (S.set j (.ol t (ds.set q d)))) : putAt j n m S N := by
  subst h1 h2
  unfold putAt
  simp only [h3, h4, oP_some]
  exact h
theorem i_own0 {ds : List D} {P : List D → Prop} (h : S[(0 : Nat)]? = some (.ol (some 0) ds)) (k : P ds) : own0 S P := by
  unfold own0
  rw [h]
  exact k
theorem i_lent {ns rest : List NV} {t : Option Nat} {ds es : List D} {P : Nat → Option Nat → List D → List D → Prop} (h : ns = .bo i :: rest) (h2 : S[i]? = some (.ol t ds)) (h3 : dsOf rest = some es) (k : P i t ds es) : lent ns S P := by
  subst h
  unfold lent
  simp only [h2, h3, oP_some]
  exact k
theorem i_rtf {r : RV} {d : D} (h : r = .f d) (k : R (.f d) S) : wo (rtOut r S) N R B C := by subst h; exact k
theorem i_rtl {r : RV} {d : List D} (h : r = .ol d) (k : R (.ol d) S) : wo (rtOut r S) N R B C := by subst h; exact k
theorem i_rtd {r : RV} {ks : List Key} {d : List D} (h : r = .od ks d) (k : R (.od ks d) S) : wo (rtOut r S) N R B C := by subst h; exact k
theorem i_rtb {r : RV} {ds : List D} (h : r = .bo i) (h2 : S[i]? = some (.ol none ds)) (k : R (.ol ds) (S.set i .u)) : wo (rtOut r S) N R B C := by
  subst h
  unfold rtOut
  simp only [h2]
  exact k
theorem i_rtbd {r : RV} {ks : List Key} {ds : List D} (h : r = .bo i) (h2 : S[i]? = some (.od none ks ds)) (k : R (.od ks ds) (S.set i .u)) : wo (rtOut r S) N R B C := by
  subst h
  unfold rtOut
  simp only [h2]
  exact k
theorem i_Disp {tab : List (Str × (Sl → Rs RV))} {F : Str → Sl → Rs RV} (ht : ∀ z F, tab.lookup z = some F → True) (h : wp (f1 S) fun n S1 => match n with
    | .f (.str z) => oP (tab.lookup z) fun F => wp (fCall F fa S1) P
    | _ => False) : wp (fDisp tab f1 fa S) P := by rw [wp_Disp]; exact h
theorem i_bo {r : RV} {A : Prop} (h : ∀ i, r ≠ .bo i) (k : A) : (∀ i, r ≠ .bo i) ∧ A := ⟨h, k⟩
theorem i_and {A B : Prop} (h : A) (k : B) : A ∧ B := ⟨h, k⟩
theorem i_oI {g : Int → Int → D} {c : Int → Int → Bool} {x y : Int} {P : RV → Prop} (h : c x y = true) (k : P (.f (g x y))) : oP (oI g c (.int x) (.int y)) P := by
  unfold oI
  simp only [h, if_true]
  exact k
theorem i_oRep {x y : Int} {P : RV → Prop} (h : (small64 x || small64 y) = true) (k : P (.f (.int (x * y)))) : oP (oRep (.int x) (.int y)) P := by
  unfold oRep
  simp only [h, if_true]
  exact k
theorem i_cat {x y : Int} {P : RV → Prop} (k : P (.f (.int (x + y)))) : oP (oCat (.int x) (.int y)) P := k
theorem i_repL {xs : List D} {k : Int} {P : RV → Prop} (h : -(2 ^ 63) ≤ k ∧ k < 2 ^ 63 ∧ xs.length * k.toNat ≤ 100000) (q : P (.ol (repD k.toNat xs))) : oP (oRep (.lst xs) (.int k)) P := by
  unfold oRep
  simp only [if_pos h]
  exact q
theorem i_catL {xs ys : List D} {P : RV → Prop} (h : xs.length + ys.length ≤ 100000) (q : P (.ol (xs ++ ys))) : oP (oCat (.lst xs) (.lst ys)) P := by
  unfold oCat
  simp only [if_pos h]
  exact q
theorem i_catT {xs ys : List D} {P : RV → Prop} (h : xs.length + ys.length ≤ 100000) (q : P (.f (.tup (xs ++ ys)))) : oP (oCat (.tup xs) (.tup ys)) P := by
  unfold oCat
  simp only [if_pos h]
  exact q
theorem i_catS {x y : Str} {P : RV → Prop} (h : x.length + y.length ≤ 100000) (q : P (.f (.str (x ++ y)))) : oP (oCat (.str x) (.str y)) P := by
  unfold oCat
  simp only [if_pos h]
  exact q
end
theorem g_wo {o : Out} {N : Sl → Prop} {R : RV → Sl → Prop} {B C : Sl → Prop} (h : wo o N R B C) : wo o N R B C := h
theorem g_wp {α : Type} {r : Rs α} {P : α → Sl → Prop} (h : wp r P) : wp r P := h
theorem g_oP {α : Type} {o : Option α} {P : α → Prop} (h : oP o P) : oP o P := h
/-! small64 -/
theorem sm_l {x y : Int} (h : -(2 ^ 64) < x ∧ x < 2 ^ 64) : (small64 x || small64 y) = true := by
  unfold small64
  rw [Bool.or_eq_true, decide_eq_true_eq]
  exact .inl h
theorem sm_r {x y : Int} (h : -(2 ^ 64) < y ∧ y < 2 ^ 64) : (small64 x || small64 y) = true := by
  unfold small64
  rw [Bool.or_eq_true, decide_eq_true_eq, decide_eq_true_eq]
  exact .inr h
end DL
set_option Elab.async false
set_option linter.all false
set_option maxRecDepth 100000
set_option maxHeartbeats 4000000
/-! DL22: items of written lists, letters, words of letters. -/
namespace DL
open PySem L2
section
variable {P : RV → Prop} {i : Int} {xs : List D}
theorem atI_some {α : Type} {xs : List α} {i : Int} (h : 0 ≤ i ∧ i < xs.length) : ∃ d, atI xs i = some d ∧ d ∈ xs ∧ xs[i.toNat]? = some d := by
  have hl : i.toNat < xs.length := by omega
  refine ⟨xs[i.toNat], ?_, List.getElem_mem hl, List.getElem?_eq_getElem hl⟩
  rw [atI_nat h.1 h.2]
  exact List.getElem?_eq_getElem hl
theorem i_ixL (h : 0 ≤ i ∧ i < xs.length) (k : ∀ d, d ∈ xs → xs[i.toNat]? = some d → P (.f d)) : oP (oIx (.lst xs) (.int i)) P := by
  obtain ⟨d, e, m, e2⟩ := atI_some h
  unfold oIx
  simp only [e]
  exact k d m e2
theorem i_ixT (h : 0 ≤ i ∧ i < xs.length) (k : ∀ d, d ∈ xs → xs[i.toNat]? = some d → P (.f d)) : oP (oIx (.tup xs) (.int i)) P := by
  obtain ⟨d, e, m, e2⟩ := atI_some h
  unfold oIx
  simp only [e]
  exact k d m e2
theorem i_ixZ {ns : List Int} (h : 0 ≤ i ∧ i < ns.length) (k : ∀ n, n ∈ ns → ns[i.toNat]? = some n → P (.f (.int n))) : oP (oIx (.scr ns) (.int i)) P := by
  obtain ⟨d, e, m, e2⟩ := atI_some h
  unfold oIx
  simp only [e]
  exact k d m e2
theorem i_ixS {x : Str} (hl : x.length ≤ 100000) (h : 0 ≤ i ∧ i < x.length) (k : ∀ c, c ∈ x.cps.toList → x.cps.toList[i.toNat]? = some c → P (.f (.str (sgn c)))) : oP (oIx (.str x) (.int i)) P := by
  obtain ⟨d, e, m, e2⟩ := atI_some (xs := x.cps.toList) (i := i) (by simpa [PySem.Str.length] using h)
  unfold oIx
  simp only [e, if_pos hl]
  exact k d m e2
/-! of a written list of two, three, .. items -/
theorem i_ix2 {a b : D} (h : xs = [a, b]) (hi : 0 ≤ i ∧ i < 2) (k : ∀ d, (i = 0 ∧ d = a) ∨ (i = 1 ∧ d = b) → P (.f d)) : oP (oIx (.lst xs) (.int i)) P := by
  subst h
  have : i = 0 ∨ i = 1 := by omega
  rcases this with rfl | rfl
  · exact k _ (.inl ⟨rfl, rfl⟩)
  · exact k _ (.inr ⟨rfl, rfl⟩)
theorem i_ix2I {a b : Int} (h : xs = [.int a, .int b]) (hi : 0 ≤ i ∧ i < 2) (k : ∀ d, (i = 0 ∧ d = a) ∨ (i = 1 ∧ d = b) → P (.f (.int d))) : oP (oIx (.lst xs) (.int i)) P := by
  subst h
  have : i = 0 ∨ i = 1 := by omega
  rcases this with rfl | rfl
  · exact k _ (.inl ⟨rfl, rfl⟩)
  · exact k _ (.inr ⟨rfl, rfl⟩)
theorem i_ix3I {a b c : Int} (h : xs = [.int a, .int b, .int c]) (hi : 0 ≤ i ∧ i < 3) (k : ∀ d, d = a ∨ d = b ∨ d = c → P (.f (.int d))) : oP (oIx (.lst xs) (.int i)) P := by
  subst h
  have : i = 0 ∨ i = 1 ∨ i = 2 := by omega
  rcases this with rfl | rfl | rfl
  · exact k _ (.inl rfl)
  · exact k _ (.inr (.inl rfl))
  · exact k _ (.inr (.inr rfl))
theorem i_ix4I {a b c e : Int} (h : xs = [.int a, .int b, .int c, .int e]) (hi : 0 ≤ i ∧ i < 4) (k : ∀ d, d = a ∨ d = b ∨ d = c ∨ d = e → P (.f (.int d))) : oP (oIx (.lst xs) (.int i)) P := by
  subst h
  have : i = 0 ∨ i = 1 ∨ i = 2 ∨ i = 3 := by omega
  rcases this with rfl | rfl | rfl | rfl
  · exact k _ (.inl rfl)
  · exact k _ (.inr (.inl rfl))
  · exact k _ (.inr (.inr (.inl rfl)))
  · exact k _ (.inr (.inr (.inr rfl)))
theorem i_ix6I {a b c e f g : Int} (h : xs = [.int a, .int b, .int c, .int e, .int f, .int g]) (hi : 0 ≤ i ∧ i < 6) (k : ∀ d, d = a ∨ d = b ∨ d = c ∨ d = e ∨ d = f ∨ d = g → P (.f (.int d))) : oP (oIx (.lst xs) (.int i)) P := by
  subst h
  have : i = 0 ∨ i = 1 ∨ i = 2 ∨ i = 3 ∨ i = 4 ∨ i = 5 := by omega
  rcases this with rfl | rfl | rfl | rfl | rfl | rfl
  · exact k _ (.inl rfl)
  · exact k _ (.inr (.inl rfl))
  · exact k _ (.inr (.inr (.inl rfl)))
  · exact k _ (.inr (.inr (.inr (.inl rfl))))
  · exact k _ (.inr (.inr (.inr (.inr (.inl rfl)))))
  · exact k _ (.inr (.inr (.inr (.inr (.inr rfl)))))
theorem i_ix6S {a b c e f g : Str} (h : xs = [.str a, .str b, .str c, .str e, .str f, .str g]) (hi : 0 ≤ i ∧ i < 6) (k : ∀ d, d = a ∨ d = b ∨ d = c ∨ d = e ∨ d = f ∨ d = g → P (.f (.str d))) : oP (oIx (.lst xs) (.int i)) P := by
  subst h
  have : i = 0 ∨ i = 1 ∨ i = 2 ∨ i = 3 ∨ i = 4 ∨ i = 5 := by omega
  rcases this with rfl | rfl | rfl | rfl | rfl | rfl
  · exact k _ (.inl rfl)
  · exact k _ (.inr (.inl rfl))
  · exact k _ (.inr (.inr (.inl rfl)))
  · exact k _ (.inr (.inr (.inr (.inl rfl))))
  · exact k _ (.inr (.inr (.inr (.inr (.inl rfl)))))
  · exact k _ (.inr (.inr (.inr (.inr (.inr rfl)))))
end
/-! ### texts of signs -/
def ofCps (cs : List Nat) : Str := ⟨cs.toArray⟩
theorem ofCps_len {cs : List Nat} : (ofCps cs).length = cs.length := by simp [ofCps, PySem.Str.length]
theorem ofCps_list {cs : List Nat} : (ofCps cs).cps.toList = cs := by simp [ofCps]
theorem join_sgn : ∀ cs : List Nat, Str.join PySem.Str.empty (cs.map sgn) = ofCps cs
  | [] => rfl
  | [c] => rfl
  | c :: d :: cs => by
    have h := join_sgn (d :: cs)
    show sgn c ++ PySem.Str.empty ++ Str.join PySem.Str.empty ((d :: cs).map sgn) = _
    rw [h]
    show Str.mk ((#[c] ++ #[]) ++ (d :: cs).toArray) = Str.mk (c :: d :: cs).toArray
    simp
theorem strs_sgn : ∀ cs : List Nat, strsOf (cs.map fun c => D.str (sgn c)) = some (cs.map sgn)
  | [] => rfl
  | c :: cs => by simp only [List.map_cons, strsOf, strs_sgn cs, Option.map_some]
theorem sum_sgn : ∀ cs : List Nat, ((cs.map sgn).map (·.length)).sum = cs.length
  | [] => rfl
  | c :: cs => by
    have := sum_sgn cs
    simp only [List.map_cons, List.sum_cons, List.length_cons, this]
    show 1 + cs.length = _
    omega
theorem empty_eq : PySem.Str.ofString "" = PySem.Str.empty := by decide +kernel
theorem i_joinS {cs : List Nat} {P : RV → Prop} (hl : cs.length ≤ 1000) (k : P (.f (.str (ofCps cs)))) : oP (oJoin (.str (PySem.Str.ofString "")) (.lst (cs.map fun c => D.str (sgn c)))) P := by
  unfold oJoin
  simp only [strs_sgn]
  rw [if_pos, empty_eq, show Txt.join PySem.Str.empty (cs.map sgn) = ofCps cs from (TL.join_eq _ _).trans (join_sgn cs)]
  · exact k
  · rw [sum_sgn, show (PySem.Str.ofString "").length = 0 from by decide +kernel]
    simp
    omega
/-! ### letters -/
def Low (c : Nat) : Prop := 97 ≤ c ∧ c ≤ 122
instance (c : Nat) : Decidable (Low c) := inferInstanceAs (Decidable (_ ∧ _))
def letters : Str := PySem.Str.ofString "abcdefghijklmnopqrstuvwxyz"
theorem letters_eq : letters = ofCps [97, 98, 99, 100, 101, 102, 103, 104, 105, 106, 107, 108, 109, 110, 111, 112, 113, 114, 115, 116, 117, 118, 119, 120, 121, 122] := by decide +kernel
theorem letters_has (c : Nat) : letters.cps.contains c = decide (Low c) := by
  rw [letters_eq, Bool.eq_iff_iff]
  simp only [ofCps, List.contains_toArray, List.contains_eq_mem, decide_eq_true_eq, List.mem_cons, List.not_mem_nil, or_false]
  unfold Low
  omega
theorem letters_low {c : Nat} (h : c ∈ letters.cps.toList) : Low c := by
  have := letters_has c
  rw [show letters.cps.contains c = true from by simpa using h] at this
  simpa using this.symm
theorem takeWhile_all {α : Type} {p : α → Bool} : ∀ {l : List α}, (l.takeWhile p).length = l.length ↔ ∀ x ∈ l, p x = true
  | [] => by simp
  | x :: l => by
    by_cases h : p x = true
    · simp only [List.takeWhile_cons, h, if_true, List.length_cons, List.mem_cons, forall_eq_or_imp, true_and]
      rw [← takeWhile_all (l := l)]
      omega
    · simp only [List.takeWhile_cons, h, if_false]
      simp [h]
theorem takeWhile_le {α : Type} {p : α → Bool} (l : List α) : (l.takeWhile p).length ≤ l.length := (List.takeWhile_sublist p).length_le
theorem drop_tw {α : Type} {p : α → Bool} : ∀ l : List α, l.drop (l.takeWhile p).length = l.dropWhile p
  | [] => rfl
  | x :: l => by
    by_cases h : p x = true
    · simp only [List.takeWhile_cons, List.dropWhile_cons, h, if_true, List.length_cons, List.drop_succ_cons]
      exact drop_tw l
    · simp only [List.takeWhile_cons, List.dropWhile_cons, h, if_false, List.length_nil, List.drop_zero]
      rfl
/-- nothing is left of a text of which only such signs are taken off both ends -/
theorem strip_none {x y : Str} : Txt.stripChars x y = PySem.Str.empty ↔ ∀ c ∈ x.cps.toList, y.cps.contains c = true := by
  unfold Txt.stripChars Txt.stripBy
  have hlen : x.length = x.cps.toList.length := by simp [PySem.Str.length]
  by_cases hs : stripSame y.cps.contains true true x = true
  · rw [if_pos hs]
    constructor
    · intro h c hc
      rw [h] at hc
      simp [PySem.Str.empty] at hc
    · intro h
      have e : (x.cps.toList.takeWhile y.cps.contains).length = 0 := by
        unfold stripSame stripLo at hs
        simp only [if_true, Bool.and_eq_true, beq_iff_eq] at hs
        exact hs.1
      rw [takeWhile_all.mpr h] at e
      obtain ⟨a⟩ := x
      have : a = #[] := Array.eq_empty_of_size_eq_zero (by simpa using e)
      rw [this]
      rfl
  · rw [if_neg hs]
    unfold stripped
    have lo_le : stripLo y.cps.contains true x ≤ x.length := by
      unfold stripLo
      simp only [if_true]
      rw [hlen]
      exact takeWhile_le _
    have emp : ∀ i j, Builtin.Str.strSub x i j = PySem.Str.empty ↔ min j x.length - i = 0 := by
      intro i j
      unfold Builtin.Str.strSub PySem.Str.empty
      constructor
      · intro h
        have h2 : (x.cps.extract i j).size = 0 := by
          have := Str.mk.inj h
          rw [this]
          rfl
        rw [Array.size_extract] at h2
        exact h2
      · intro h
        have h2 : x.cps.extract i j = #[] := Array.eq_empty_of_size_eq_zero (by rw [Array.size_extract]; exact h)
        rw [h2]
    rw [emp]
    constructor
    · intro h
      have key : stripLo y.cps.contains true x = x.length := by
        refine Nat.le_antisymm lo_le (Nat.le_of_not_lt fun hlt => ?_)
        -- the first sign that stays
        have hd : (x.cps.toList.drop (stripLo y.cps.contains true x)) = (x.cps.toList.dropWhile y.cps.contains) := by
          unfold stripLo
          simp only [if_true]
          exact drop_tw _
        have hne : (x.cps.toList.dropWhile y.cps.contains) ≠ [] := by
          rw [← hd]
          intro e
          have := congrArg List.length e
          rw [List.length_drop, ← hlen] at this
          simp at this
          omega
        have hlt2 : ((x.cps.toList.drop (stripLo y.cps.contains true x)).reverse.takeWhile y.cps.contains).length < (x.cps.toList.drop (stripLo y.cps.contains true x)).length := by
          refine Nat.lt_of_le_of_ne ?_ ?_
          · have := takeWhile_le (p := y.cps.contains) (x.cps.toList.drop (stripLo y.cps.contains true x)).reverse
            simpa using this
          · intro e
            have e' := takeWhile_all (p := y.cps.contains) (l := (x.cps.toList.drop (stripLo y.cps.contains true x)).reverse)
            rw [List.length_reverse] at e'
            have all := e'.mp e
            rw [hd] at all
            have hh := List.head_dropWhile_not (p := y.cps.contains) (l := x.cps.toList) (w := hne)
            have := all _ (by rw [List.mem_reverse]; exact List.head_mem hne)
            rw [this] at hh
            cases hh
        unfold stripHi at h
        simp only [if_true] at h
        rw [List.length_drop, ← hlen] at hlt2
        omega
      unfold stripLo at key
      simp only [if_true] at key
      rw [hlen] at key
      exact takeWhile_all.mp key
    · intro h
      have key : stripLo y.cps.contains true x = x.length := by
        unfold stripLo
        simp only [if_true]
        rw [hlen]
        exact takeWhile_all.mpr h
      rw [key]
      omega
theorem strip_low {x : Str} : Txt.stripChars x letters = PySem.Str.ofString "" ↔ ∀ c ∈ x.cps.toList, Low c := by
  rw [empty_eq, strip_none]
  simp only [letters_has, decide_eq_true_eq]
end DL
namespace DL
open PySem L2
theorem wp_Yes {S : Sl} {P : Bool → Sl → Prop} : wp (fYes S) P = P true S := rfl
theorem i_cMin {ds : List D} {i j : Int} {P : RV → Prop} (h : ds = [.int i, .int j]) (k : ∀ m, m ≤ i ∧ m ≤ j ∧ (m = i ∨ m = j) → P (.f (.int m))) : oP (cMin ds) P := by
  subst h
  refine k _ ?_
  split <;> omega
theorem i_cMax {ds : List D} {i j : Int} {P : RV → Prop} (h : ds = [.int i, .int j]) (k : ∀ m, i ≤ m ∧ j ≤ m ∧ (m = i ∨ m = j) → P (.f (.int m))) : oP (cMax ds) P := by
  subst h
  refine k _ ?_
  split <;> omega
theorem bitOr_nat (a b : Nat) : Builtin.bitOr (a : Int) (b : Int) = ((a ||| b : Nat) : Int) := by
  unfold Builtin.bitOr Builtin.bitAnd Builtin.bitNot
  rw [show decide (0 ≤ -(a : Int) - 1) = false from decide_eq_false (by omega), show decide (0 ≤ -(b : Int) - 1) = false from decide_eq_false (by omega)]
  simp only
  rw [show (-(-(a : Int) - 1) - 1).toNat = a from by omega, show (-(-(b : Int) - 1) - 1).toNat = b from by omega]
  omega
/-- masks of bits below k -/
def Mask (k : Nat) (m : Int) : Prop := 1 ≤ m ∧ m < 2 ^ k
theorem mask_one {k j : Nat} (h : j < k) : Mask k (1 * 2 ^ j) := by
  have h1 : (1 : Int) ≤ 2 ^ j := by
    have := Nat.one_le_two_pow (n := j)
    exact_mod_cast this
  have h2 : (2 : Int) ^ j < 2 ^ k := by
    have := Nat.pow_lt_pow_right (a := 2) (by decide) h
    exact_mod_cast this
  exact ⟨by omega, by omega⟩
theorem mask_or {k : Nat} {a b : Int} (h : Mask k a) (h2 : Mask k b) : Mask k (Builtin.bitOr a b) := by
  obtain ⟨n, rfl⟩ : ∃ n : Nat, a = n := ⟨a.toNat, by have := h.1; omega⟩
  obtain ⟨m, rfl⟩ : ∃ n : Nat, b = n := ⟨b.toNat, by have := h2.1; omega⟩
  rw [bitOr_nat]
  have e : ((2 ^ k : Nat) : Int) = 2 ^ k := by norm_cast
  have h3 : n < 2 ^ k := by have := h.2; rw [← e] at this; omega
  have h4 : m < 2 ^ k := by have := h2.2; rw [← e] at this; omega
  have h5 := Nat.or_lt_two_pow h3 h4
  have h6 : n ≤ n ||| m := Nat.left_le_or
  have := h.1
  refine ⟨by omega, ?_⟩
  rw [← e]
  exact_mod_cast h5
end DL
namespace DL
open PySem L2
theorem intsFrom_mem {lo : Int} {n : Nat} {d : D} {pre r : List D} (h : intsFrom lo n = pre ++ d :: r) : d = .int (lo + pre.length) ∧ pre.length < n := by
  have hl : pre.length < (intsFrom lo n).length := by rw [h]; simp
  have h2 : (intsFrom lo n)[pre.length]? = some d := by rw [h]; simp
  have hn : (intsFrom lo n).length = n := by simp [intsFrom]
  rw [hn] at hl
  refine ⟨?_, hl⟩
  unfold intsFrom at h2
  rw [List.getElem?_map, List.getElem?_range hl] at h2
  exact (Option.some.inj h2).symm
theorem intsFrom_len {lo : Int} {n : Nat} : (intsFrom lo n).length = n := by simp [intsFrom]
end DL
namespace DL
open PySem L2
section
variable {f1 : Sl → Rs NV} {fb : Sl → Rs Bool} {S : Sl} {N : Sl → Prop} {R : RV → Sl → Prop} {B C : Sl → Prop} {P : RV → Sl → Prop}
theorem drop_cons {ds r : List D} {d : D} {j : Nat} (h : d :: r = ds.drop j) : ds[j]? = some d ∧ j < ds.length ∧ r = ds.drop (j + 1) := by
  have hlt : j < ds.length := by
    have := congrArg List.length h
    rw [List.length_drop] at this
    simp at this
    omega
  rw [List.drop_eq_getElem_cons hlt] at h
  obtain ⟨e1, e2⟩ := List.cons.inj h
  exact ⟨by rw [List.getElem?_eq_getElem hlt, e1], hlt, e2⟩
/-- a loop by its invariant, by the number of turns -/
theorem wo_forX {bind : D → Sl → Option Sl} {body : Sl → Out} {ds : List D} (I : Nat → Sl → Prop) (h0 : I 0 S)
    (step : ∀ j d S, ds[j]? = some d → j < ds.length → I j S → oP (bind d S) fun S1 => wo (body S1) (I (j + 1)) R N (I (j + 1))) (fin : ∀ S, I ds.length S → N S) : wo (forF bind body ds S) N R B C := by
  refine wo_for (I := fun r S => ∃ j, r = ds.drop j ∧ j ≤ ds.length ∧ I j S) ⟨0, rfl, Nat.zero_le _, h0⟩ ?_ ?_
  · rintro d r S ⟨j, hr, hj, h⟩
    obtain ⟨e1, e2, e3⟩ := drop_cons hr
    have q := step j d S e1 e2 h
    cases e : bind d S with
    | none => rw [e] at q; exact q.elim
    | some S1 =>
      rw [e] at q
      exact wo_mono (show wo (body S1) _ R N _ from q) (fun S z => ⟨j + 1, e3, e2, z⟩) (fun _ _ z => z) (fun _ z => z) (fun S z => ⟨j + 1, e3, e2, z⟩)
  · rintro S ⟨j, hr, hj, h⟩
    have : j = ds.length := by
      have := congrArg List.length hr
      rw [List.length_drop] at this
      simp at this
      omega
    exact fin S (this ▸ h)
theorem wo_forR {bind : D → Sl → Option Sl} {body : Sl → Out} {lo : Int} {n : Nat} (I : Nat → Sl → Prop) (h0 : I 0 S)
    (step : ∀ (j : Nat) S, j < n → I j S → oP (bind (.int (lo + j)) S) fun S1 => wo (body S1) (I (j + 1)) R N (I (j + 1))) (fin : ∀ S, I n S → N S) : wo (forF bind body (intsFrom lo n) S) N R B C := by
  refine wo_forX I h0 (fun j d S hd hj h => ?_) (fun S h => fin S (by rwa [intsFrom_len] at h))
  rw [intsFrom_len] at hj
  unfold intsFrom at hd
  rw [List.getElem?_map, List.getElem?_range hj] at hd
  cases hd
  exact step j S hj h
theorem wp_lcX {vs : List Nat} {bind : D → Sl → Option Sl} {ds : List D} (I : Nat → List D → Sl → Prop) (h0 : I 0 [] S) (hl : ds.length ≤ 100000)
    (step : ∀ j d acc S, ds[j]? = some d → j < ds.length → I j acc S → oP (bind d S) fun S1 => wp (fb S1) fun b S2 => if b = true then wp (f1 S2) fun n S3 => oP (dOf n) fun x => I (j + 1) (acc ++ [x]) (wipeS S3 vs) else I (j + 1) acc (wipeS S2 vs))
    (fin : ∀ acc S, I ds.length acc S → P (.ol acc) S) : wp (lcF vs bind fb f1 ds [] S) P := by
  refine wp_lcF (I := fun r acc S => ∃ j, r = ds.drop j ∧ j ≤ ds.length ∧ I j acc S) ⟨0, rfl, Nat.zero_le _, h0⟩ (by simpa using hl) ?_ ?_
  · rintro d r acc S ⟨j, hr, hj, h⟩
    obtain ⟨e1, e2, e3⟩ := drop_cons hr
    have q := step j d acc S e1 e2 h
    cases e : bind d S with
    | none => rw [e] at q; exact q.elim
    | some S1 =>
      rw [e] at q
      refine wp_mono (show wp (fb S1) _ from q) fun b S2 q => ?_
      cases b with
      | false => exact ⟨j + 1, e3, e2, q⟩
      | true =>
        refine wp_mono (show wp (f1 S2) _ from q) fun n S3 q => ?_
        cases n with
        | bo i => exact q.elim
        | f x => exact ⟨j + 1, e3, e2, q⟩
  · rintro acc S ⟨j, hr, hj, h⟩
    have : j = ds.length := by
      have := congrArg List.length hr
      rw [List.length_drop] at this
      simp at this
      omega
    exact fin acc S (this ▸ h)
theorem wp_lcR {vs : List Nat} {bind : D → Sl → Option Sl} {lo : Int} {n : Nat} (I : Nat → List D → Sl → Prop) (h0 : I 0 [] S) (hl : n ≤ 100000)
    (step : ∀ (j : Nat) acc S, j < n → I j acc S → oP (bind (.int (lo + j)) S) fun S1 => wp (fb S1) fun b S2 => if b = true then wp (f1 S2) fun n S3 => oP (dOf n) fun x => I (j + 1) (acc ++ [x]) (wipeS S3 vs) else I (j + 1) acc (wipeS S2 vs))
    (fin : ∀ acc S, I n acc S → P (.ol acc) S) : wp (lcF vs bind fb f1 (intsFrom lo n) [] S) P := by
  refine wp_lcX I h0 (by rw [intsFrom_len]; exact hl) (fun j d acc S hd hj h => ?_) (fun acc S h => fin acc S (by rwa [intsFrom_len] at h))
  rw [intsFrom_len] at hj
  unfold intsFrom at hd
  rw [List.getElem?_map, List.getElem?_range hj] at hd
  cases hd
  exact step j acc S hj h
/-- a comprehension that makes g of each item and changes no slot but its own -/
theorem wp_lcMap {vs : List Nat} {bind : D → Sl → Option Sl} {ds : List D} (g : D → Option D) (hl : ds.length ≤ 100000)
    (step : ∀ d ∈ ds, oP (bind d S) fun S1 => wp (fb S1) fun b S2 => if b = true then wp (f1 S2) fun n S3 => oP (dOf n) fun x => g d = some x ∧ wipeS S3 vs = S else g d = none ∧ wipeS S2 vs = S)
    (fin : P (.ol (ds.filterMap g)) S) : wp (lcF vs bind fb f1 ds [] S) P := by
  refine wp_lcX (I := fun j acc S' => S' = S ∧ acc = (ds.take j).filterMap g) ⟨rfl, by simp⟩ hl ?_ ?_
  · rintro j d acc S' hd hj ⟨rfl, rfl⟩
    have q := step d (List.mem_of_getElem? hd)
    have e4 : ds.take (j + 1) = ds.take j ++ [d] := by
      rw [List.take_succ, hd]
      rfl
    cases e : bind d S' with
    | none => rw [e] at q; exact q.elim
    | some S1 =>
      rw [e] at q
      refine wp_mono (show wp (fb S1) _ from q) fun b S2 q => ?_
      cases b with
      | false => exact ⟨q.2, by rw [e4, List.filterMap_append]; simp [q.1]⟩
      | true =>
        refine wp_mono (show wp (f1 S2) _ from q) fun n S3 q => ?_
        cases n with
        | bo i => exact q.elim
        | f x => exact ⟨q.2, by rw [e4, List.filterMap_append]; simp [q.1]⟩
  · rintro acc S' ⟨rfl, rfl⟩
    rw [List.take_length]
    exact fin
end
end DL
namespace DL
theorem mask_le {r : Nat} {m : Int} (h : Mask r m) (hr : r ≤ 64) : m ≤ 18446744073709551615 := by
  have h2 : (2 : Int) ^ r ≤ 2 ^ 64 := by
    have := Nat.pow_le_pow_right (n := 2) (by decide) hr
    exact_mod_cast this
  have := h.2
  have e : (2 : Int) ^ 64 = 18446744073709551616 := by decide
  omega
theorem mask_shr {r : Nat} {m : Int} (h : Mask r m) {z : Int} (hz : z = r) : m / 2 ^ z.toNat = 0 := by
  subst hz
  rw [Int.toNat_natCast]
  exact Int.ediv_eq_zero_of_lt (by have := h.1; omega) h.2
end DL
namespace DL
open PySem L2
section
variable {f1 : Sl → Rs NV} {fb : Sl → Rs Bool} {S : Sl} {N : Sl → Prop} {R : RV → Sl → Prop} {B C : Sl → Prop} {P : RV → Sl → Prop}
theorem wo_forR0 {bind : D → Sl → Option Sl} {body : Sl → Out} {n : Nat} (I : Nat → Sl → Prop) (h0 : I 0 S)
    (step : ∀ (j : Nat) S, j < n → I j S → oP (bind (.int (j : Nat)) S) fun S1 => wo (body S1) (I (j + 1)) R N (I (j + 1))) (fin : ∀ S, I n S → N S) : wo (forF bind body (intsFrom 0 n) S) N R B C :=
  wo_forR I h0 (fun j S hj h => by rw [Int.zero_add]; exact step j S hj h) fin
theorem wp_lcR0 {vs : List Nat} {bind : D → Sl → Option Sl} {n : Nat} (I : Nat → List D → Sl → Prop) (h0 : I 0 [] S) (hl : n ≤ 100000)
    (step : ∀ (j : Nat) acc S, j < n → I j acc S → oP (bind (.int (j : Nat)) S) fun S1 => wp (fb S1) fun b S2 => if b = true then wp (f1 S2) fun n S3 => oP (dOf n) fun x => I (j + 1) (acc ++ [x]) (wipeS S3 vs) else I (j + 1) acc (wipeS S2 vs))
    (fin : ∀ acc S, I n acc S → P (.ol acc) S) : wp (lcF vs bind fb f1 (intsFrom 0 n) [] S) P :=
  wp_lcR I h0 hl (fun j acc S hj h => by rw [Int.zero_add]; exact step j acc S hj h) fin
end
theorem all_snoc {α : Type} {p : α → Prop} {xs : List α} {x : α} (h : ∀ y ∈ xs, p y) (hx : p x) : ∀ y ∈ xs ++ [x], p y := by
  intro y hy
  rcases List.mem_append.mp hy with hy | hy
  · exact h y hy
  · rw [List.mem_singleton.mp hy]; exact hx
theorem ix_snoc {α : Type} {p : Nat → α → Prop} {xs : List α} {x : α} (h : ∀ i y, xs[i]? = some y → p i y) (hx : p xs.length x) : ∀ i y, (xs ++ [x])[i]? = some y → p i y := by
  intro i y hy
  by_cases hi : i < xs.length
  · rw [List.getElem?_append_left hi] at hy
    exact h i y hy
  · rw [List.getElem?_append_right (by omega)] at hy
    have : i - xs.length = 0 := by
      have := (List.getElem?_eq_some_iff.mp hy).1
      simp at this
      omega
    rw [this] at hy
    cases hy
    rw [show i = xs.length from by omega]
    exact hx
theorem natI {d : Int} (h : 0 ≤ d) : ∃ n : Nat, d = (n : Int) := ⟨d.toNat, by omega⟩
end DL
set_option Elab.async false
set_option linter.all false
set_option maxRecDepth 100000
set_option maxHeartbeats 4000000
/-! DL23: isinstance, tables, += in place, hand-backs of pairs, slices. -/
namespace DL
open PySem L2
section
variable {f g : Sl → Rs RV} {f1 g1 h1 : Sl → Rs NV} {fb gb : Sl → Rs Bool} {fa : Sl → Rs (List NV)} {S : Sl} {F G : Sl → Out} {N : Sl → Prop} {R : RV → Sl → Prop} {B C : Sl → Prop} {P : RV → Sl → Prop} {i j : Nat}
def isT (c : String) : D → Bool
  | .non => isOne "NoneType" c
  | .bl _ => isOne "bool" c
  | .int _ => isOne "int" c
  | .str _ => isOne "str" c
  | .lst _ => isOne "list" c
  | .tup _ => isOne "tuple" c
  | .dic _ _ => isOne "dict" c
  | _ => false
def isInt : D → Bool
  | .int _ => true
  | .bl _ => true
  | _ => false
def isBool : D → Bool
  | .bl _ => true
  | _ => false
def isStrD : D → Bool
  | .str _ => true
  | _ => false
def isLst : D → Bool
  | .lst _ => true
  | _ => false
def isTup : D → Bool
  | .tup _ => true
  | _ => false
def isDic : D → Bool
  | .dic _ _ => true
  | _ => false
def isLT : D → Bool
  | .lst _ => true
  | .tup _ => true
  | _ => false
/-- of a kind that isinstance knows -/
def kno : D → Bool
  | .non | .bl _ | .int _ | .str _ | .lst _ | .tup _ | .dic _ _ | .xob _ _ _ => true
  | _ => false
theorem cIsi_of {d : D} {T c : String} (h1 : tyD d = some T) (h2 : okCls c = true) : cIsi [d, .ty c] = some (.f (.bl (isOne T c))) := by
  unfold cIsi
  simp only [h1, h2, if_true]
theorem i_isi {d : D} {c : String} {b : D → Bool} (hk : kno d = true) (h2 : okCls c = true) (hb : ∀ d T, tyD d = some T → isOne T c = b d) (hx : ∀ C ns ds, b (.xob C ns ds) = false := by intros; rfl) {P : RV → Prop} (k : P (.f (.bl (b d)))) : oP (cIsi [d, .ty c]) P := by
  cases e : tyD d with
  | none =>
    cases d <;> first | (cases hk; done) | (cases e; done) | skip
    rw [hx] at k
    unfold cIsi
    simp only [e, isXb, h2, Bool.and_self, if_true]
    exact k
  | some T => rw [cIsi_of e h2, hb d T e]; exact k
theorem i_isInt {d : D} {P : RV → Prop} (h : kno d = true) (k : P (.f (.bl (isInt d)))) : oP (cIsi [d, .ty "int"]) P :=
  i_isi h (by decide +kernel) (fun d T e => by cases d <;> simp only [tyD] at e <;> cases e <;> first | rfl | decide +kernel) (k := k)
theorem i_isBool {d : D} {P : RV → Prop} (h : kno d = true) (k : P (.f (.bl (isBool d)))) : oP (cIsi [d, .ty "bool"]) P :=
  i_isi h (by decide +kernel) (fun d T e => by cases d <;> simp only [tyD] at e <;> cases e <;> first | rfl | decide +kernel) (k := k)
theorem i_isStr {d : D} {P : RV → Prop} (h : kno d = true) (k : P (.f (.bl (isStrD d)))) : oP (cIsi [d, .ty "str"]) P :=
  i_isi h (by decide +kernel) (fun d T e => by cases d <;> simp only [tyD] at e <;> cases e <;> first | rfl | decide +kernel) (k := k)
theorem i_isLst {d : D} {P : RV → Prop} (h : kno d = true) (k : P (.f (.bl (isLst d)))) : oP (cIsi [d, .ty "list"]) P :=
  i_isi h (by decide +kernel) (fun d T e => by cases d <;> simp only [tyD] at e <;> cases e <;> first | rfl | decide +kernel) (k := k)
theorem i_isTup {d : D} {P : RV → Prop} (h : kno d = true) (k : P (.f (.bl (isTup d)))) : oP (cIsi [d, .ty "tuple"]) P :=
  i_isi h (by decide +kernel) (fun d T e => by cases d <;> simp only [tyD] at e <;> cases e <;> first | rfl | decide +kernel) (k := k)
theorem i_isDic {d : D} {P : RV → Prop} (h : kno d = true) (k : P (.f (.bl (isDic d)))) : oP (cIsi [d, .ty "dict"]) P :=
  i_isi h (by decide +kernel) (fun d T e => by cases d <;> simp only [tyD] at e <;> cases e <;> first | rfl | decide +kernel) (k := k)
/-- isinstance(x, (list, tuple)) -/
theorem i_isLT (h : wp (f1 S) fun n S1 => oP (view S1 n) fun d => kno d = true ∧ P (.f (.bl (isLT d))) S1) : wp (fIsi2 "list" "tuple" f1 S) P := by
  unfold fIsi2
  rw [wp_bind]
  refine wp_mono h fun n S1 q => ?_
  cases e : view S1 n with
  | none => rw [e] at q; exact q.elim
  | some d =>
    rw [e] at q
    obtain ⟨hk, q⟩ := q
    simp only
    cases e2 : tyD d with
    | none =>
      cases d <;> first | (cases hk; done) | (cases e2; done) | skip
      exact q
    | some T =>
      simp only
      have : (isOne T "list" || isOne T "tuple") = isLT d := by
        cases d <;> simp only [tyD] at e2 <;> cases e2 <;> first | rfl | decide +kernel
      rw [this]
      exact q
theorem wp_InT' {neg : Bool} {ks : List Str} : wp (fInT neg ks f1 S) P = wp (f1 S) fun n S1 => match n with
    | .f (.str z) => z ∈ ks ∧ P (.f (.bl (!neg))) S1
    | _ => False := by
  unfold fInT
  rw [wp_bind]
  refine congrArg (wp (f1 S)) ?_
  funext n S1
  cases n with
  | bo i => rfl
  | f d =>
    cases d <;> try rfl
    exact wp_ifno
theorem wp_RetP : wo (sRetP i f1 S) N R B C = wp (fVar i S) fun _ S1 => wp (f1 S1) fun _ S2 => match S2[i]? with
    | some (.ol none ds) => R (.ol ds) (S2.set i .u)
    | _ => False := by
  unfold sRetP
  rw [wo_bindS]
  refine congrArg (wp (fVar i S)) ?_
  funext _ S1
  rw [wo_bindS]
  refine congrArg (wp (f1 S1)) ?_
  funext _ S2
  cases S2[i]? with
  | none => rfl
  | some sv =>
    cases sv with
    | u => rfl
    | f d => rfl
    | od t k d => rfl
    | ol t d => cases t <;> rfl
theorem i_retP {ds : List D} (h : S[i]? = some (.ol none ds)) (k : R (.ol ds) (S.set i .u)) : (match S[i]? with
    | some (.ol none ds) => R (.ol ds) (S.set i .u)
    | _ => False) := by
  rw [h]
  exact k
/-- xs[k] += y -/
def augAt (j : Nat) (k : Int) (fe : Sl → Rs NV) (S2 : Sl) (N : Sl → Prop) : Prop := match S2[j]? with
  | some (.ol _ ds) => 0 ≤ k ∧ (match ds[k.toNat]? with
    | some (.int x) => wp (fe S2) fun n S3 => match n with
      | .f (.int y) => (match S3[j]? with
        | some (.ol t' ds') => oP (ixN ds'.length k) fun q => N (S3.set j (.ol t' (ds'.set q (.int (x + y)))))
        | _ => False)
      | _ => False
    | _ => False)
  | _ => False
theorem wo_aug {k : Int} {j : Nat} (h0 : 0 ≤ k) {t : Option Nat} {ds : List D} {x : Int} (h1 : S[j]? = some (.ol t ds)) (h2 : ds[k.toNat]? = some (.int x))
    (hi : wp (fVar j S) fun _ S1 => S1 = S ∧ wp (f1 S1) fun m S2 => m = .f (.int k) ∧ S2 = S ∧ wp (g1 S2) fun n S3 => ∃ y, n = .f (.int y) ∧ S3 = S ∧ N (S.set j (.ol t (ds.set k.toNat (.int (x + y)))))) : wo (sAugIx j f1 g1 S) N R B C := by
  unfold sAugIx
  rw [wo_bindS]
  refine wp_mono hi fun _ S1 q => ?_
  obtain ⟨rfl, q⟩ := q
  rw [wo_bindS]
  refine wp_mono q fun m S2 q => ?_
  obtain ⟨rfl, rfl, q⟩ := q
  simp only [h1, h2, if_pos h0]
  rw [wo_bindS]
  refine wp_mono q fun n S3 q => ?_
  obtain ⟨y, rfl, rfl, q⟩ := q
  have hl : k.toNat < ds.length := (List.getElem?_eq_some_iff.mp h2).1
  have e : ixN ds.length k = some k.toNat := by
    unfold ixN
    rw [if_pos h0, if_pos (by omega)]
  simp only [h1, e]
  exact q
end
section
variable {P : RV → Prop} {xs : List D}
theorem i_ixTn {n : Nat} {d : D} (h : xs[n]? = some d) (k : P (.f d)) : oP (oIx (.tup xs) (.int (n : Nat))) P := by
  have hl := (List.getElem?_eq_some_iff.mp h).1
  unfold oIx
  simp only [show atI xs (n : Nat) = some d from by rw [atI_nat (by omega) (by omega)]; exact h]
  exact k
theorem i_ixLn {n : Nat} {d : D} (h : xs[n]? = some d) (k : P (.f d)) : oP (oIx (.lst xs) (.int (n : Nat))) P := by
  have hl := (List.getElem?_eq_some_iff.mp h).1
  unfold oIx
  simp only [show atI xs (n : Nat) = some d from by rw [atI_nat (by omega) (by omega)]; exact h]
  exact k
/-- xs[1:] -/
theorem cut_tail {α : Type} {x : α} {xs : List α} : cutD (x :: xs) (some 1) none = xs := by
  unfold cutD
  have e1 : HT.sIx (x :: xs).length 0 (some 1) = 1 := by
    unfold HT.sIx
    simp
    first | done | omega
  have e2 : HT.sIx (x :: xs).length (x :: xs).length none = xs.length + 1 := by
    unfold HT.sIx
    simp
  rw [e1, e2]
  simp
theorem i_tail {d : D} {ds : List D} (k : P (.f (.tup ds))) : oP (oSl (.tup (d :: ds)) (some 1) none) P := by
  unfold oSl
  simp only [cut_tail]
  exact k
end
section
variable {f g : Sl → Rs RV} {f1 g1 h1 : Sl → Rs NV} {fb gb : Sl → Rs Bool} {fa : Sl → Rs (List NV)} {S : Sl} {F G : Sl → Out} {N : Sl → Prop} {R : RV → Sl → Prop} {B C : Sl → Prop} {P : RV → Sl → Prop} {i j : Nat}
def strAt (n : NV) (P : Str → Prop) : Prop := match n with
  | .f (.str z) => P z
  | _ => False
theorem i_strAt {n : NV} {z : Str} {P : Str → Prop} (h : n = .f (.str z)) (k : P z) : strAt n P := by subst h; exact k
def starAt (n : NV) (P : D → List D → Prop) : Prop := match n with
  | .f (.tup (d :: ds)) => P d ds
  | _ => False
theorem i_starAt {n : NV} {d : D} {ds : List D} {P : D → List D → Prop} (h : n = .f (.tup (d :: ds))) (k : P d ds) : starAt n P := by subst h; exact k
def ownN (S : Sl) (i : Nat) (P : List D → Prop) : Prop := match S[i]? with
  | some (.ol none ds) => P ds
  | _ => False
theorem i_ownN {ds : List D} {P : List D → Prop} (h : S[i]? = some (.ol none ds)) (k : P ds) : ownN S i P := by
  unfold ownN
  rw [h]
  exact k
theorem wp_DispE {tab : List (Str × (Sl → Rs RV))} : wp (fDisp tab f1 fa S) P = wp (f1 S) fun n S1 => strAt n fun z => oP (tab.lookup z) fun F => wp (fCall F fa S1) P := by
  rw [wp_Disp]
  rfl
theorem wp_InTE {neg : Bool} {ks : List Str} : wp (fInT neg ks f1 S) P = wp (f1 S) fun n S1 => strAt n fun z => z ∈ ks ∧ P (.f (.bl (!neg))) S1 := by
  rw [wp_InT']
  rfl
theorem wp_StarE : wo (sStar i j f1 S) N R B C = wp (f1 S) fun n S1 => starAt n fun d ds => ds.length ≤ 16000 ∧ N ((S1.set i (.f d)).set j (.ol none ds)) := by
  rw [wp_Star]
  rfl
theorem wp_RetPE : wo (sRetP i f1 S) N R B C = wp (fVar i S) fun _ S1 => wp (f1 S1) fun _ S2 => ownN S2 i fun ds => R (.ol ds) (S2.set i .u) := by
  rw [wp_RetP]
  rfl
theorem i_seqN (h : wo (F S) (fun S1 => wo (G S1) N R B C) (fun _ _ => False) (fun _ => False) (fun _ => False)) : wo (sSeqN F G S) N R B C := by
  rw [wo_seqN]
  exact h
end
theorem i_lenS {x : Str} {ds : List D} {P : RV → Prop} (h : ds = [.str x]) (hl : x.length ≤ 100000) (k : P (.f (.int x.length))) : oP (cLenA ds) P := by
  subst h
  show oP (if x.length ≤ 100000 then some (.f (.int x.length)) else none) P
  rw [if_pos hl]
  exact k
theorem i_strip {x y : Str} {P : RV → Prop} (hl : x.length ≤ 100000) (k : P (.f (.str (Txt.stripChars x y)))) : oP (oStrip (.str x) (.str y)) P := by
  unfold oStrip
  simp only [if_pos hl]
  exact k
theorem i_allT {ds xs : List D} {P : RV → Prop} (h : ds = [.lst xs]) (hx : ∀ d ∈ xs, d = .bl true) (k : P (.f (.bl true))) : oP (cAll ds) P := by
  subst h
  have e : ∀ xs : List D, (∀ d ∈ xs, d = .bl true) → blsOf xs = some (List.replicate xs.length true) := by
    intro xs
    induction xs with
    | nil => intro _; rfl
    | cons x xs ih =>
      intro h
      have hx := h x (by simp)
      subst hx
      simp only [blsOf, ih fun d hd => h d (by simp [hd]), Option.map_some, List.length_cons, List.replicate_succ]
  unfold cAll
  simp only [e xs hx, Option.map_some]
  rw [oP_some, show ((List.replicate xs.length true).all id) = true from List.all_eq_true.mpr fun b hb => by rw [List.eq_of_mem_replicate hb]; rfl]
  exact k
theorem lookup_hit {α : Type} {z k : Str} {v : α} {l : List (Str × α)} (h : (z == k) = true) : List.lookup z ((k, v) :: l) = some v := by
  simp only [List.lookup, h]
theorem lookup_miss {α : Type} {z k : Str} {v : α} {l : List (Str × α)} {o : Option α} (h : (z == k) = false) (h2 : List.lookup z l = o) : List.lookup z ((k, v) :: l) = o := by
  simp only [List.lookup, h]
  exact h2
theorem i_ixT0 {d : D} {ds : List D} {P : RV → Prop} (k : P (.f d)) : oP (oIx (.tup (d :: ds)) (.int 0)) P := by
  unfold oIx
  simp only [atI_0]
  exact k
theorem i_ixT1 {d e : D} {ds : List D} {P : RV → Prop} (k : P (.f e)) : oP (oIx (.tup (d :: e :: ds)) (.int 1)) P := by
  unfold oIx
  simp only [atI_1]
  exact k
theorem i_ixT2 {d e f : D} {ds : List D} {P : RV → Prop} (k : P (.f f)) : oP (oIx (.tup (d :: e :: f :: ds)) (.int 2)) P := by
  unfold oIx
  simp only [atI_2]
  exact k
theorem i_ixT3 {d e f g : D} {ds : List D} {P : RV → Prop} (k : P (.f g)) : oP (oIx (.tup (d :: e :: f :: g :: ds)) (.int 3)) P := by
  unfold oIx
  simp only [atI_3]
  exact k
theorem i_ixL0 {d : D} {ds : List D} {P : RV → Prop} (k : P (.f d)) : oP (oIx (.lst (d :: ds)) (.int 0)) P := by
  unfold oIx
  simp only [atI_0]
  exact k
theorem i_ixL1 {d e : D} {ds : List D} {P : RV → Prop} (k : P (.f e)) : oP (oIx (.lst (d :: e :: ds)) (.int 1)) P := by
  unfold oIx
  simp only [atI_1]
  exact k
theorem i_ixL2 {d e f : D} {ds : List D} {P : RV → Prop} (k : P (.f f)) : oP (oIx (.lst (d :: e :: f :: ds)) (.int 2)) P := by
  unfold oIx
  simp only [atI_2]
  exact k
/-! repr and what is the same -/
theorem i_reprL {ds xs : List D} {P : RV → Prop} (h : ds = [.lst xs]) (hok : okRp (.lst xs) = true) (k : P (.f (.str (rp (.lst xs))))) : oP (cRepr ds) P := by
  subst h
  rw [cRepr_lst hok]
  exact k
theorem i_reprT {ds xs : List D} {P : RV → Prop} (h : ds = [.tup xs]) (hok : okRp (.tup xs) = true) (k : P (.f (.str (rp (.tup xs))))) : oP (cRepr ds) P := by
  subst h
  rw [cRepr_tup hok]
  exact k
theorem ite_nself {α : Type} [DecidableEq α] {a : α} {A B : Prop} (k : B) : if (!decide (a = a)) = true then A else B := by
  rw [if_neg (by simp)]
  exact k
theorem ite_self {α : Type} [DecidableEq α] {a : α} {A B : Prop} (k : A) : if (decide (a = a)) = true then A else B := by
  rw [if_pos (by simp)]
  exact k
theorem okRp_of {d : D} (h1 : rok d = true) (h2 : dep d ≤ 60) (h3 : wD d ≤ 400000) : okRp d = true := by
  unfold okRp
  simp only [h1, decide_eq_true h2, decide_eq_true h3, Bool.and_self, Bool.true_or]
theorem okRp_ofS {d : D} (h1 : ros d = true) (h2 : dep d ≤ 60) (h3 : wS d ≤ 1048576) : okRp d = true := by
  unfold okRp
  simp only [h1, decide_eq_true h2, decide_eq_true h3, Bool.and_self, Bool.or_true]
theorem rosL_of {ds : List D} (h : ∀ d ∈ ds, ros d = true) : rosL ds = true := by
  induction ds with
  | nil => rfl
  | cons d ds ih => simp only [rosL, h d (by simp), ih fun e he => h e (by simp [he]), Bool.and_self]
theorem wSL_of {n : Nat} {ds : List D} (h : ∀ d ∈ ds, wS d ≤ n) : wSL ds ≤ (n + 1) * ds.length := by
  induction ds with
  | nil => exact Nat.zero_le _
  | cons d ds ih =>
    simp only [wSL, List.length_cons, Nat.mul_succ]
    have h1 := h d (by simp)
    have h2 := ih fun e he => h e (by simp [he])
    omega
/-- rows of items that can be shown -/
theorem rokL_of {ds : List D} (h : ∀ d ∈ ds, rok d = true) : rokL ds = true := by
  induction ds with
  | nil => rfl
  | cons d ds ih => simp only [rokL, h d (by simp), ih fun e he => h e (by simp [he]), Bool.and_self]
theorem depL_of {n : Nat} {ds : List D} (h : ∀ d ∈ ds, dep d ≤ n) : depL ds ≤ n := by
  induction ds with
  | nil => exact Nat.zero_le _
  | cons d ds ih =>
    simp only [depL]
    exact Nat.max_le.mpr ⟨h d (by simp), ih fun e he => h e (by simp [he])⟩
theorem wL_of {n : Nat} {ds : List D} (h : ∀ d ∈ ds, wD d ≤ n) : wL ds ≤ (n + 1) * ds.length := by
  induction ds with
  | nil => exact Nat.zero_le _
  | cons d ds ih =>
    simp only [wL, List.length_cons, Nat.mul_succ]
    have h1 := h d (by simp)
    have h2 := ih fun e he => h e (by simp [he])
    omega
/-- shown in short: of depth k, of weight n -/
structure Shn (k n : Nat) (d : D) : Prop where
  ok : rok d = true
  dp : dep d ≤ k
  wt : wD d ≤ n
theorem Shn.mono {k n k' n' : Nat} {d : D} (h : Shn k n d) (h1 : k ≤ k') (h2 : n ≤ n') : Shn k' n' d := ⟨h.ok, Nat.le_trans h.dp h1, Nat.le_trans h.wt h2⟩
theorem Shn.rp {k n : Nat} {d : D} (h : Shn k n d) (h1 : k ≤ 60) (h2 : n ≤ 400000) : okRp d = true := okRp_of h.ok (Nat.le_trans h.dp h1) (Nat.le_trans h.wt h2)
theorem shn_int {i : Int} (h : 0 ≤ i ∧ i < 10 ^ 25) : Shn 0 100 (.int i) := ⟨by simp only [rok, decide_eq_true h], by simp [dep], by simp [wD]⟩
theorem shn_bl {b : Bool} : Shn 0 0 (.bl b) := ⟨by simp only [rok], by simp [dep], by simp [wD]⟩
theorem shn_non : Shn 0 0 .non := ⟨by simp only [rok], by simp [dep], by simp [wD]⟩
theorem shn_str {x : Str} {n : Nat} (h : ∀ c ∈ x.cps.toList, c < 16 ^ 8) (hl : x.length ≤ n) : Shn 0 n (.str x) := ⟨by simp only [rok, List.all_eq_true, decide_eq_true_eq]; exact h, by simp [dep], by simp [wD]; exact hl⟩
theorem shn_lst {k n m : Nat} {ds : List D} (h : ∀ d ∈ ds, Shn k n d) (hl : ds.length ≤ m) : Shn (k + 1) ((n + 1) * m) (.lst ds) := by
  refine ⟨by simp only [rok]; exact rokL_of fun d hd => (h d hd).ok, ?_, ?_⟩
  · simp only [dep]
    have := depL_of (n := k) fun d hd => (h d hd).dp
    omega
  · simp only [wD]
    exact Nat.le_trans (wL_of (n := n) fun d hd => (h d hd).wt) (Nat.mul_le_mul_left _ hl)
theorem shn_tup {k n m : Nat} {ds : List D} (h : ∀ d ∈ ds, Shn k n d) (hl : ds.length ≤ m) : Shn (k + 1) ((n + 1) * m) (.tup ds) := by
  refine ⟨by simp only [rok]; exact rokL_of fun d hd => (h d hd).ok, ?_, ?_⟩
  · simp only [dep]
    have := depL_of (n := k) fun d hd => (h d hd).dp
    omega
  · simp only [wD]
    exact Nat.le_trans (wL_of (n := n) fun d hd => (h d hd).wt) (Nat.mul_le_mul_left _ hl)
/-- two or more items, each with its own bound -/
theorem shn_t2 {k n m : Nat} {a b : D} (h1 : Shn k n a) (h2 : Shn k m b) : Shn (k + 1) (n + m + 2) (.tup [a, b]) := by
  refine ⟨by simp only [rok, rokL, h1.ok, h2.ok, Bool.and_self], ?_, ?_⟩
  · simp only [dep, depL]
    have := h1.dp
    have := h2.dp
    omega
  · simp only [wD, wL]
    have := h1.wt
    have := h2.wt
    omega
theorem shn_l2 {k n m : Nat} {a b : D} (h1 : Shn k n a) (h2 : Shn k m b) : Shn (k + 1) (n + m + 2) (.lst [a, b]) := by
  refine ⟨by simp only [rok, rokL, h1.ok, h2.ok, Bool.and_self], ?_, ?_⟩
  · simp only [dep, depL]
    have := h1.dp
    have := h2.dp
    omega
  · simp only [wD, wL]
    have := h1.wt
    have := h2.wt
    omega
end DL
set_option Elab.async false
set_option linter.all false
set_option maxRecDepth 100000
set_option maxHeartbeats 4000000
/-! DL24: rows that equal themselves, dicts of pairs. -/
namespace DL
open PySem L2
mutual
/-- data that == can look at -/
def lay : D → Bool
  | .non => true
  | .bl _ => true
  | .int _ => true
  | .str x => x.cps.all (· < 0x110000)
  | .lst ds => layL ds
  | .tup ds => layL ds
  | _ => false
def layL : List D → Bool
  | [] => true
  | d :: ds => lay d && layL ds
end
mutual
theorem lay_py : ∀ d : D, lay d = true → py d = some (pyd d) ∧ (pyd d).canLay0 = true ∧ (pyd d).depth ≤ dep d
  | .non, _ => ⟨by simp only [py, pyd], by simp only [pyd, PyData.canLay0], by simp [pyd, PyData.depth]⟩
  | .bl b, _ => ⟨by simp only [py, pyd], by simp only [pyd, PyData.canLay0], by simp [pyd, PyData.depth]⟩
  | .int i, _ => ⟨by simp only [py, pyd], by simp only [pyd, PyData.canLay0], by simp [pyd, PyData.depth]⟩
  | .str x, h => ⟨by simp only [py, pyd], by simp only [pyd, PyData.canLay0, PyData.strOk]; simpa only [lay] using h, by simp [pyd, PyData.depth]⟩
  | .lst ds, h => by
    simp only [lay] at h
    obtain ⟨h1, h2, h3⟩ := layL_py ds h
    exact ⟨by simp only [py, pyd, h1, Option.map_some], by simp only [pyd, PyData.canLay0, h2], by simp only [pyd, PyData.depth, dep]; omega⟩
  | .tup ds, h => by
    simp only [lay] at h
    obtain ⟨h1, h2, h3⟩ := layL_py ds h
    exact ⟨by simp only [py, pyd, h1, Option.map_some], by simp only [pyd, PyData.canLay0, h2], by simp only [pyd, PyData.depth, dep]; omega⟩
  | .ref _, h | .ty _, h | .dic _ _, h | .ins _ _ _, h | .scr _, h | .xob _ _ _, h => by simp [lay] at h
theorem layL_py : ∀ ds : List D, layL ds = true → pyL ds = some (pydL ds) ∧ PyData.canLayAll0 (pydL ds) = true ∧ PyData.depthAll (pydL ds) ≤ depL ds
  | [], _ => ⟨by simp only [pyL, pydL], by simp only [pydL, PyData.canLayAll0], by simp [pydL, PyData.depthAll]⟩
  | d :: ds, h => by
    simp only [layL, Bool.and_eq_true] at h
    obtain ⟨g1, g2, g3⟩ := lay_py d h.1
    obtain ⟨h1, h2, h3⟩ := layL_py ds h.2
    refine ⟨by simp only [pyL, pydL, g1, h1, Option.bind_some, Option.map_some], by simp only [pydL, PyData.canLayAll0, g2, h2, Bool.and_self], ?_⟩
    simp only [pydL, PyData.depthAll, depL]; omega
end
theorem lay_shaped {d : D} (h : lay d = true) (hd : dep d ≤ 64) : py d = some (pyd d) ∧ SeqAt.shaped (pyd d) = true := by
  obtain ⟨h1, h2, h3⟩ := lay_py d h
  refine ⟨h1, ?_⟩
  unfold SeqAt.shaped
  rw [h2, decide_eq_true (by omega)]
  rfl
theorem eqD_L {neg : Bool} {xs ys : List D} (h1 : layL xs = true) (h2 : layL ys = true) (d1 : depL xs ≤ 63) (d2 : depL ys ≤ 63) : eqD neg (.lst xs) (.lst ys) = some (.f (.bl (if neg = true then !PyData.eqvAll (pydL xs) (pydL ys) else PyData.eqvAll (pydL xs) (pydL ys)))) := by
  obtain ⟨a1, a2⟩ := lay_shaped (d := .lst xs) (by simp only [lay]; exact h1) (by simp only [dep]; omega)
  obtain ⟨b1, b2⟩ := lay_shaped (d := .lst ys) (by simp only [lay]; exact h2) (by simp only [dep]; omega)
  rw [eqD_of rfl a1 b1 a2 b2]
  simp only [pyd, PyData.eqv]
theorem eqD_same {neg : Bool} {xs : List D} (h1 : layL xs = true) (d1 : depL xs ≤ 63) : eqD neg (.lst xs) (.lst xs) = some (.f (.bl (!neg))) := by
  rw [eqD_L h1 h1 d1 d1]
  have := SeqAt.eqvAll_refl (pydL xs) (layL_py xs h1).2.1
  rw [this]
  cases neg <;> rfl
theorem layL_of {ds : List D} (h : ∀ d ∈ ds, lay d = true) : layL ds = true := by
  induction ds with
  | nil => rfl
  | cons d ds ih => simp only [layL, h d (by simp), ih fun e he => h e (by simp [he]), Bool.and_self]
theorem lay_ints {ns : List Int} : layL (ns.map D.int) = true := layL_of fun d hd => by
  obtain ⟨n, _, rfl⟩ := List.mem_map.mp hd
  rfl
theorem dep_ints {ns : List Int} : depL (ns.map D.int) ≤ 0 := DL.depL_of fun d hd => by
  obtain ⟨n, _, rfl⟩ := List.mem_map.mp hd
  exact Nat.le_refl _
/-! dicts -/
theorem putD_all {p : Key × D → Prop} {kvs : List (Key × D)} {k : Key} {v : D} (h : ∀ q ∈ kvs, p q) (hv : p (k, v)) : ∀ q ∈ putD kvs k v, p q := by
  intro q hq
  unfold putD at hq
  split at hq
  · obtain ⟨z, hz, rfl⟩ := List.mem_map.mp hq
    split
    · rename_i e
      rw [e]
      exact hv
    · exact h z hz
  · rcases List.mem_append.mp hq with hq | hq
    · exact h q hq
    · rw [List.mem_singleton.mp hq]
      exact hv
theorem putD_len {kvs : List (Key × D)} {k : Key} {v : D} : (putD kvs k v).length ≤ kvs.length + 1 := by
  unfold putD
  split <;> simp
theorem mergeD_all {p : Key × D → Prop} : ∀ {more kvs : List (Key × D)}, (∀ q ∈ kvs, p q) → (∀ q ∈ more, p q) → ∀ q ∈ mergeD kvs more, p q
  | [], kvs, h, _ => h
  | m :: more, kvs, h, h2 => by
    show ∀ q ∈ mergeD (putD kvs m.1 m.2) more, p q
    exact mergeD_all (putD_all h (h2 m (by simp))) fun q hq => h2 q (by simp [hq])
theorem mergeD_len : ∀ {more kvs : List (Key × D)}, (mergeD kvs more).length ≤ kvs.length + more.length
  | [], kvs => by simp [mergeD]
  | m :: more, kvs => by
    have h := mergeD_len (more := more) (kvs := putD kvs m.1 m.2)
    have h2 := putD_len (kvs := kvs) (k := m.1) (v := m.2)
    show (mergeD (putD kvs m.1 m.2) more).length ≤ _
    simp only [List.length_cons]
    omega
/-- pairs of an int and an int, as data -/
def pairI (p : Int × Int) : D := .tup [.int p.1, .int p.2]
theorem pairsD_ints : ∀ {ps : List (Int × Int)}, pairsD (ps.map pairI) = some (ps.map fun p => (Sum.inl p.1, D.int p.2))
  | [] => rfl
  | p :: ps => by
    simp only [List.map_cons, pairsD, pairsD_ints (ps := ps)]
    rfl
/-- a dict made of such pairs is one of such pairs -/
theorem merge_ints {q : Int × Int → Prop} {ps : List (Int × Int)} (h : ∀ p ∈ ps, q p) : ∃ kvs : List (Int × Int), mergeD [] (ps.map fun p => ((Sum.inl p.1 : Key), D.int p.2)) = kvs.map (fun p => ((Sum.inl p.1 : Key), D.int p.2)) ∧ (∀ p ∈ kvs, q p) ∧ kvs.length ≤ ps.length := by
  have h2 := mergeD_all (p := fun z : Key × D => ∃ p : Int × Int, z = (Sum.inl p.1, D.int p.2) ∧ q p) (kvs := []) (more := ps.map fun p => ((Sum.inl p.1 : Key), D.int p.2)) (fun _ z => nomatch z) (fun z hz => by
    obtain ⟨p, hp, rfl⟩ := List.mem_map.mp hz
    exact ⟨p, rfl, h p hp⟩)
  have h3 := mergeD_len (kvs := []) (more := ps.map fun p => ((Sum.inl p.1 : Key), D.int p.2))
  have ex : ∀ l : List (Key × D), (∀ z ∈ l, ∃ p : Int × Int, z = (Sum.inl p.1, D.int p.2) ∧ q p) → ∃ kvs : List (Int × Int), l = kvs.map (fun p => ((Sum.inl p.1 : Key), D.int p.2)) ∧ ∀ p ∈ kvs, q p := by
    intro l
    induction l with
    | nil => intro _; exact ⟨[], rfl, fun _ z => nomatch z⟩
    | cons z l ih =>
      intro h
      obtain ⟨p, rfl, hp⟩ := h z (by simp)
      obtain ⟨kvs, rfl, hk⟩ := ih fun y hy => h y (by simp [hy])
      exact ⟨p :: kvs, rfl, fun y hy => by
        rcases List.mem_cons.mp hy with rfl | hy
        · exact hp
        · exact hk y hy⟩
  obtain ⟨kvs, e, hk⟩ := ex _ h2
  refine ⟨kvs, e, hk, ?_⟩
  rw [e] at h3
  simpa using h3
def keysI (kvs : List (Int × Int)) : List Key := kvs.map fun p => Sum.inl p.1
def valsI (kvs : List (Int × Int)) : List D := kvs.map fun p => D.int p.2
theorem i_dict {ds xs : List D} {q : Int × Int → Prop} {ps : List (Int × Int)} {P : RV → Prop} (h : ds = [.lst xs]) (hx : xs = ps.map pairI) (hq : ∀ p ∈ ps, q p) (k : ∀ kvs : List (Int × Int), (∀ p ∈ kvs, q p) → kvs.length ≤ ps.length → P (.od (keysI kvs) (valsI kvs))) : oP (cDict ds) P := by
  subst h hx
  unfold cDict
  simp only [pairsD_ints]
  obtain ⟨kvs, e, hk, hl⟩ := merge_ints hq
  rw [e, oP_some]
  have := k kvs hk hl
  rw [List.map_map, List.map_map]
  exact this
theorem items_ints : ∀ {kvs : List (Int × Int)}, itemsD (keysI kvs) (valsI kvs) = kvs.map pairI
  | [] => rfl
  | p :: kvs => by
    have h := items_ints (kvs := kvs)
    simp only [keysI, valsI, List.map_cons, itemsD] at h ⊢
    rw [h]
    rfl
theorem okDic_ints {kvs : List (Int × Int)} (h : ∀ p ∈ kvs, (0 ≤ p.1 ∧ p.1 < 10 ^ 25) ∧ 0 ≤ p.2 ∧ p.2 < 10 ^ 25) (hl : kvs.length ≤ 500) : okDic (keysI kvs) (valsI kvs) = true := by
  unfold okDic
  have h1 : (keysI kvs).all okK = true := List.all_eq_true.mpr fun k hk => by
    obtain ⟨p, hp, rfl⟩ := List.mem_map.mp hk
    simp only [okK, rok, decide_eq_true_eq]
    exact (h p hp).1
  have h2 : (valsI kvs).all intV = true := List.all_eq_true.mpr fun k hk => by
    obtain ⟨p, hp, rfl⟩ := List.mem_map.mp hk
    simp only [intV, rok, decide_eq_true_eq]
    exact (h p hp).2
  have h3 : ((keysI kvs).map fun k => wD (kD k)).sum ≤ 100 * kvs.length := by
    clear h h1 h2 hl
    induction kvs with
    | nil => simp [keysI]
    | cons p kvs ih =>
      simp only [keysI, List.map_cons, List.sum_cons, List.length_cons, Nat.mul_succ] at ih ⊢
      have : wD (kD (Sum.inl p.1)) = 100 := by simp [kD, wD]
      omega
  rw [h1, h2, decide_eq_true (by simp [valsI]; omega), decide_eq_true (by omega)]
  rfl
theorem i_reprD {ds es : List D} {ks : List Key} {P : RV → Prop} (h : ds = [.dic ks es]) (hok : okDic ks es = true) (k : P (.f (.str (rpD ks es)))) : oP (cRepr ds) P := by
  subst h
  show oP (if okDic ks es = true then some (.f (.str (rpD ks es))) else none) P
  rw [if_pos hok]
  exact k
theorem repD_one {d : D} : ∀ n : Nat, repD n [d] = List.replicate n d
  | 0 => rfl
  | n + 1 => by
    have h := repD_one (d := d) n
    unfold repD at h ⊢
    rw [List.replicate_succ, List.flatten_cons, h, List.replicate_succ]
    rfl
theorem i_rep1 {xs : List D} {d : D} {k : Int} {P : RV → Prop} (h : xs = [d]) (hk : 0 ≤ k ∧ k ≤ 100000) (q : P (.ol (List.replicate k.toNat d))) : oP (oRep (.lst xs) (.int k)) P := by
  subst h
  refine i_repL ⟨by omega, by omega, by simp; omega⟩ ?_
  rw [repD_one]
  exact q
/-! ### counting in a list -/
def bump (t : Int) (xs : List Int) (i : Nat) : List Int := xs.set i (xs.getD i 0 + t)
def bumps (t : Int) (xs : List Int) (is : List Nat) : List Int := is.foldl (bump t) xs
theorem bump_len {t : Int} {xs : List Int} {i : Nat} : (bump t xs i).length = xs.length := by simp [bump]
theorem bumps_len {t : Int} : ∀ {is : List Nat} {xs : List Int}, (bumps t xs is).length = xs.length
  | [], _ => rfl
  | i :: is, xs => by
    show (bumps t (bump t xs i) is).length = _
    rw [bumps_len, bump_len]
theorem bumps_snoc {t : Int} {xs : List Int} {is : List Nat} {i : Nat} : bumps t xs (is ++ [i]) = bump t (bumps t xs is) i := by
  unfold bumps
  rw [List.foldl_append]
  rfl
structure Bd (n : Nat) (B : Int) (xs : List Int) : Prop where
  len : xs.length = n
  bd : ∀ x ∈ xs, 0 ≤ x ∧ x ≤ B
theorem Bd.bump {n : Nat} {B t T : Int} {xs : List Int} (h : Bd n B xs) (h0 : 0 ≤ t ∧ t ≤ T) (hB : 0 ≤ B) (i : Nat) : Bd n (B + T) (bump t xs i) := by
  refine ⟨by rw [bump_len]; exact h.len, fun x hx => ?_⟩
  have hg : 0 ≤ xs.getD i 0 ∧ xs.getD i 0 ≤ B := by
    by_cases hi : i < xs.length
    · have := h.bd _ (List.getElem_mem hi)
      rw [List.getD_eq_getElem?_getD, List.getElem?_eq_getElem hi]
      exact this
    · rw [List.getD_eq_getElem?_getD, List.getElem?_eq_none (by omega)]
      exact ⟨Int.le_refl _, hB⟩
  rcases List.mem_or_eq_of_mem_set hx with hx | rfl
  · have := h.bd x hx
    omega
  · omega
theorem Bd.bumps {n : Nat} {t T : Int} (h0 : 0 ≤ t ∧ t ≤ T) : ∀ {is : List Nat} {B : Int} {xs : List Int}, Bd n B xs → 0 ≤ B → Bd n (B + T * is.length) (bumps t xs is)
  | [], B, xs, h, hB => by simpa [DL.bumps] using h
  | i :: is, B, xs, h, hB => by
    have h2 := Bd.bumps h0 (is := is) (h.bump h0 hB i) (by omega)
    have e : B + T + T * is.length = B + T * ((i :: is).length : Nat) := by
      rw [List.length_cons, Int.natCast_succ, Int.mul_add, Int.mul_one]
      omega
    rw [← e]
    exact h2
theorem Bd.mono {n : Nat} {B C : Int} {xs : List Int} (h : Bd n B xs) (l : B ≤ C) : Bd n C xs := ⟨h.len, fun x hx => ⟨(h.bd x hx).1, Int.le_trans (h.bd x hx).2 l⟩⟩
theorem bd_zero {n : Nat} : Bd n 0 (List.replicate n 0) := ⟨by simp, fun x hx => by rw [List.eq_of_mem_replicate hx]; exact ⟨Int.le_refl _, Int.le_refl _⟩⟩
theorem Bd.shn {n : Nat} {B : Int} {xs : List Int} (h : Bd n B xs) (hB : B < 10 ^ 25) : Shn 1 (101 * n) (.lst (xs.map D.int)) := by
  refine shn_lst (k := 0) (n := 100) (fun d hd => ?_) (by simp [h.len])
  obtain ⟨x, hx, rfl⟩ := List.mem_map.mp hd
  exact shn_int ⟨(h.bd x hx).1, Int.lt_of_le_of_lt (h.bd x hx).2 hB⟩
theorem take_snoc {α : Type} {l : List α} {j : Nat} {x : α} (h : l[j]? = some x) : l.take (j + 1) = l.take j ++ [x] := by
  rw [List.take_succ, h]
  rfl
/-! the goal behind a door: nothing is evaluated there but step by step -/
@[irreducible] def GG (A : Prop) : Prop := A
theorem gg_out {A : Prop} (h : GG A) : A := by unfold GG at h; exact h
theorem gg_in {A : Prop} (h : A) : GG A := by unfold GG; exact h
theorem gg_eq {A B : Prop} (e : A = B) (h : GG B) : GG A := by rw [e]; exact h
theorem gg_imp {A B : Prop} (f : B → A) (h : GG B) : GG A := gg_in (f (gg_out h))
theorem gg_d {c : Prop} [Decidable c] {A B : Prop} (k1 : c → GG A) (k2 : ¬ c → GG B) : GG (if decide c = true then A else B) := gg_in (ite_d (fun h => gg_out (k1 h)) fun h => gg_out (k2 h))
theorem gg_nd {c : Prop} [Decidable c] {A B : Prop} (k1 : ¬ c → GG A) (k2 : c → GG B) : GG (if (!decide c) = true then A else B) := gg_in (ite_nd (fun h => gg_out (k1 h)) fun h => gg_out (k2 h))
theorem gg_b {b : Bool} {A B : Prop} (k1 : b = true → GG A) (k2 : b = false → GG B) : GG (if b = true then A else B) := gg_in (ite_b (fun h => gg_out (k1 h)) fun h => gg_out (k2 h))
theorem gg_cMin {ds : List D} {i j : Int} {P : RV → Prop} (h : ds = [.int i, .int j]) (k : ∀ m, m ≤ i ∧ m ≤ j ∧ (m = i ∨ m = j) → GG (P (.f (.int m)))) : GG (oP (cMin ds) P) := gg_in (i_cMin h fun m hm => gg_out (k m hm))
theorem gg_cMax {ds : List D} {i j : Int} {P : RV → Prop} (h : ds = [.int i, .int j]) (k : ∀ m, i ≤ m ∧ j ≤ m ∧ (m = i ∨ m = j) → GG (P (.f (.int m)))) : GG (oP (cMax ds) P) := gg_in (i_cMax h fun m hm => gg_out (k m hm))
theorem gg_all {α : Type} {q : α → Prop} {P : α → Prop} {A : Prop} (f : (∀ a, q a → P a) → A) (k : ∀ a, q a → GG (P a)) : GG A := gg_in (f fun a h => gg_out (k a h))
theorem gg_all2 {α : Type} {q r : α → Prop} {P : α → Prop} {A : Prop} (f : (∀ a, q a → r a → P a) → A) (k : ∀ a, q a → r a → GG (P a)) : GG A := gg_in (f fun a h h2 => gg_out (k a h h2))
theorem i_bof {d : D} {A : Prop} (k : A) : (∀ i, RV.f d ≠ .bo i) ∧ A := And.intro (fun _ z => by cases z) k
theorem i_bol {d : List D} {A : Prop} (k : A) : (∀ i, RV.ol d ≠ .bo i) ∧ A := And.intro (fun _ z => by cases z) k
theorem i_bod {ks : List Key} {d : List D} {A : Prop} (k : A) : (∀ i, RV.od ks d ≠ .bo i) ∧ A := And.intro (fun _ z => by cases z) k
end DL
set_option Elab.async false
set_option linter.all false
set_option maxRecDepth 100000
set_option maxHeartbeats 4000000
/-! DL27: sorted(set(e)), e a list of ints. -/
namespace DL
open PySem L2
/-! ### in plain Lean -/
def putS (x : Int) : List Int → List Int
  | [] => [x]
  | y :: ys => if x < y then x :: y :: ys else if x = y then y :: ys else y :: putS x ys
def ssort (ns : List Int) : List Int := ns.foldr putS []
theorem putS_mem {x z : Int} : ∀ {ys : List Int}, z ∈ putS x ys ↔ z = x ∨ z ∈ ys
  | [] => by simp [putS]
  | y :: ys => by
    unfold putS
    split
    · simp
    · split
      · rename_i h
        subst h
        simp
      · simp only [List.mem_cons, putS_mem (ys := ys)]
        constructor
        · rintro (h | h | h)
          · exact .inr (.inl h)
          · exact .inl h
          · exact .inr (.inr h)
        · rintro (h | h | h)
          · exact .inr (.inl h)
          · exact .inl h
          · exact .inr (.inr h)
theorem putS_lt {x : Int} : ∀ {ys : List Int}, ys.Pairwise (· < ·) → (putS x ys).Pairwise (· < ·)
  | [], _ => by simp [putS]
  | y :: ys, h => by
    obtain ⟨h1, h2⟩ := List.pairwise_cons.mp h
    unfold putS
    split
    · rename_i hx
      refine List.pairwise_cons.mpr ⟨fun z hz => ?_, h⟩
      rcases List.mem_cons.mp hz with rfl | hz
      · exact hx
      · have := h1 z hz
        omega
    · split
      · exact h
      · refine List.pairwise_cons.mpr ⟨fun z hz => ?_, putS_lt h2⟩
        rcases putS_mem.mp hz with rfl | hz
        · omega
        · exact h1 z hz
theorem ssort_mem {z : Int} : ∀ {ns : List Int}, z ∈ ssort ns ↔ z ∈ ns
  | [] => by simp [ssort]
  | n :: ns => by
    show z ∈ putS n (ssort ns) ↔ _
    rw [putS_mem, ssort_mem (ns := ns), List.mem_cons]
theorem ssort_lt : ∀ ns : List Int, (ssort ns).Pairwise (· < ·)
  | [] => List.Pairwise.nil
  | n :: ns => putS_lt (ssort_lt ns)
/-- what rises and has the same members is the same -/
theorem lt_ext : ∀ {xs ys : List Int}, xs.Pairwise (· < ·) → ys.Pairwise (· < ·) → (∀ z, z ∈ xs ↔ z ∈ ys) → xs = ys
  | [], [], _, _, _ => rfl
  | [], y :: ys, _, _, h => absurd ((h y).mpr (by simp)) (by simp)
  | x :: xs, [], _, _, h => absurd ((h x).mp (by simp)) (by simp)
  | x :: xs, y :: ys, hx, hy, h => by
    obtain ⟨x1, x2⟩ := List.pairwise_cons.mp hx
    obtain ⟨y1, y2⟩ := List.pairwise_cons.mp hy
    have e : x = y := by
      rcases List.mem_cons.mp ((h x).mp (by simp)) with q | q
      · exact q
      · rcases List.mem_cons.mp ((h y).mpr (by simp)) with q' | q'
        · exact q'.symm
        · have := x1 y q'
          have := y1 x q
          omega
    subst e
    congr 1
    refine lt_ext x2 y2 fun z => ⟨fun hz => ?_, fun hz => ?_⟩
    · rcases List.mem_cons.mp ((h z).mp (by simp [hz])) with rfl | q
      · exact absurd (x1 z hz) (by omega)
      · exact q
    · rcases List.mem_cons.mp ((h z).mpr (by simp [hz])) with rfl | q
      · exact absurd (y1 z hz) (by omega)
      · exact q
theorem putS_len {x : Int} : ∀ {ys : List Int}, (putS x ys).length ≤ ys.length + 1
  | [] => by simp [putS]
  | y :: ys => by
    unfold putS
    split
    · simp
    · split
      · simp
      · have := putS_len (x := x) (ys := ys)
        simp only [List.length_cons]
        omega
theorem ssort_len : ∀ {ns : List Int}, (ssort ns).length ≤ ns.length
  | [] => Nat.le_refl _
  | n :: ns => by
    have h1 := putS_len (x := n) (ys := ssort ns)
    have h2 := ssort_len (ns := ns)
    show (putS n (ssort ns)).length ≤ ns.length + 1
    omega
def intsV (d : D) : Option (List Int) := match d with
  | .lst ds => intsOf ds
  | _ => none
end DL
set_option Elab.async false
set_option linter.all false
set_option maxRecDepth 100000
set_option maxHeartbeats 4000000
/-! DL28: x in xs of ints. -/
namespace DL
open PySem L2
section
variable {X : Cx} {W : WX'} {K : PySem.W.Frag} {a b : Expr} {pos : Pos} {f1 g1 : Sl → Rs NV}
def oInI (neg : Bool) (d e : D) : Option RV := match d, e with
  | .int i, .lst ds => (intsOf ds).map fun ns => .f (.bl (if neg = true then !decide (i ∈ ns) else decide (i ∈ ns)))
  | _, _ => none
theorem inV_ints {i : Int} : ∀ ns : List Int, inV (.int i) (ns.map V.int) = decide (i ∈ ns)
  | [] => by simp [inV]
  | n :: ns => by
    have h := inV_ints (i := i) ns
    have e : inV (.int i) ((n :: ns).map V.int) = ((n == i) || inV (.int i) (ns.map V.int)) := rfl
    rw [e, h, Bool.eq_iff_iff]
    simp only [Bool.or_eq_true, beq_iff_eq, decide_eq_true_eq, List.mem_cons]
    exact or_congr_left eq_comm
theorem flat_ints : ∀ ns : List Int, (ns.map V.int).all flatV = true
  | [] => rfl
  | n :: ns => by
    simp only [List.map_cons, List.all_cons, flat_ints ns, flatV, Bool.and_self]
theorem oo_inI (neg : Bool) : OpOk K (rIn K neg) (oInI neg) := by
  intro G H x y d e o l hx hy ho Q hQ
  unfold oInI at ho
  split at ho
  · rename_i i ds
    cases ei : intsOf ds with
    | none => rw [ei] at ho; cases ho
    | some ns =>
      rw [ei] at ho
      cases ho
      cases hx.int
      obtain ⟨p, vs, rfl, h1, h2⟩ := hy.lst l
      rw [ints_ok ei h2] at h1
      refine ⟨p, _, rfl, .inl (SqL.of h1), rfl, flat_ints ns, ?_⟩
      have := ok_val (d := .bl (if neg = true then !decide (i ∈ ns) else decide (i ∈ ns))) l rfl hQ
      rw [inV_ints]
      cases neg <;> exact this
  · cases ho
theorem de_inI (ha : DN X W a f1) (hb : DN X W b g1) (hm : behindInMarks .In b = false := by rfl) : DE X W (.Compare a [.In] [b] pos) (fOp (oInI false) f1 g1) := de_cmp op_in_seq (oo_inI false) ha hb hm
theorem de_notInI (ha : DN X W a f1) (hb : DN X W b g1) (hm : behindInMarks .NotIn b = false := by rfl) : DE X W (.Compare a [.NotIn] [b] pos) (fOp (oInI true) f1 g1) := de_cmp op_notIn_seq (oo_inI true) ha hb hm
theorem dt_inI (ha : DN X W a f1) (hb : DN X W b g1) (hm : behindInMarks .In b = false := by rfl) : DT X W (.Compare a [.In] [b] pos) (fB (frz (fOp (oInI false) f1 g1))) := dt_cmp op_in_seq (oo_inI false) ha hb hm
theorem dt_notInI (ha : DN X W a f1) (hb : DN X W b g1) (hm : behindInMarks .NotIn b = false := by rfl) : DT X W (.Compare a [.NotIn] [b] pos) (fB (frz (fOp (oInI true) f1 g1))) := dt_cmp op_notIn_seq (oo_inI true) ha hb hm
end
end DL
set_option Elab.async false
set_option linter.all false
set_option maxRecDepth 100000
set_option maxHeartbeats 4000000
/-! DL29: list(d.values()). -/
namespace DL
open PySem PySem.Spec PyProof.Rows L2
section
variable {X : Cx} {W : WX'} {K : PySem.W.Frag} {e : Expr} {te : TE} {p apos cpos pos : Pos} {f1 : Sl → Rs NV}
def tListVals (te : TE) : TE := fun σ H Q => te σ H fun x H1 => ∃ (d : Addr) (kvs : List (Key × V)), x = .ref d ∧ Rd H1 d (.dK kvs) ∧ kvs.length ≤ 100000 ∧ ∀ q, H1 q = none → Q (.ref q) (upd H1 q (.lst (kvs.map (·.2))))
theorem kv_vals : ∀ {kvs : List (Key × V)} {vs : List (Key × Value)}, KV kvs vs → Vals (kvs.map (·.2)) (vs.map (·.2))
  | _, _, .nil => .nil
  | _, _, .cons h t => .cons h.2 (kv_vals t)
theorem dict_at {pins : List (Addr × Obj)} {σ : L2.St} {H : Hp} {s : Shared} {d : Addr} {kvs : List (Key × V)} (I : Inv X pins σ H s) (h : Rd H d (.dK kvs)) :
    (d == sysModules) = false ∧ ∃ (vs : List (Key × Value)) (ep : Nat), KV kvs vs ∧ s.heap.DictAt (mixKind X.prog X.w) d vs ep := by
  rcases h with h | ⟨o, h⟩
  · obtain ⟨hz, hs, vs, kv, hdo⟩ := I.hok d _ h
    obtain ⟨ep, hat⟩ := hdo.dictAt
    exact ⟨hs, vs, ep, kv, hat⟩
  · obtain ⟨hs, hgd, hx, es, ep, vs, hdt, hsz, kv, hm⟩ := I.frzK h
    exact ⟨hs, vs, ep, kv, hm⟩
theorem pe_listVals (hc : X.calm = true) (he : PE X e te) (hg : Gl X "list") (hm : X.mg "list" = none) (hv : bootBuiltins "list" = some (.type "list")) (hbase : attributeBase e "values" X.env (eval e X.env) = eval e X.env := by rfl) (hline : (apos.endLine == cpos.line) = true := by rfl)
    (hs : starEach [.Call (.Attribute e "values" apos) [] [] cpos] X.env = (false, eval (.Call (.Attribute e "values" apos) [] [] cpos) X.env) :: starEach [] X.env := by rfl) :
    PE X (.Call (.Name "list" p) [.Call (.Attribute e "values" apos) [] [] cpos] [] pos) (tListVals te) := by
  refine ⟨fun pins s σ H Q I hq => ?_⟩
  refine wpAny_Call_Name_kw (ld_blt I hg hm hv ?_)
  refine PyProof.Rows.callWith_type1 ?_ hs rfl
  rw [hs]
  show wpAny _ _ (spliced ((false, eval (.Call (.Attribute e "values" apos) [] [] cpos) X.env) :: backTo pos (starEach [] X.env))) _ _ s
  refine Calls.spliced_cons ?_
  refine wpAny_Call_method (T := "dict") (id := "dict.values") hbase rfl hline F.plainAttrs_dict F.slot_dict_values F.type_dict_values (thn (he.run pins s σ H _ I hq) fun u t ⟨x, H1, I1, rx, d, kvs, ex, hd, hl, q⟩ => ?_)
  subst ex
  obtain rfl : u = Value.ref d := rx
  obtain ⟨hsm, vs, ep, kv, hat⟩ := dict_at I1 hd
  have lk : kvs.length = vs.length := Paired.length kv
  have I2 : Inv X pins σ H1 { t with heap := t.heap.push { cls := .type "dict_values", data := .fields #[.ref d] } } := I1.kept (t' := t.toks) fun b ob q => Heap.get?_push_of_some _ q
  refine ⟨hat.dictOf.typeIs, hat.dictOf.mapOf.noDict, ?_⟩
  show wpAny _ _ (callWith cpos (.builtin "dict.values") [.ref d] [] []) _ X.xe t
  refine method_meetsIn F.slot_dict_values F.entry_dict_values rfl (PySem.evalArgs_none ⟨rfl, hat.dictOf.typeIs, F.args_dict_values_1 _, _, meets_dict_values (mixKind X.prog X.w) d hsm, ⟨vs, hat.dictOf⟩, ?_⟩)
  refine Calls.spliced_nil ?_
  refine PySem.W.kdl_call (PySem.W.kdl_values (knd := mixKind X.prog X.w) (d := d) (kvs := vs) (ep := ep)) (I1.ok.hd hc) ⟨⟨_, Heap.get?_push_size _ rfl, rfl, rfl⟩, hat.push _⟩ (by rw [← lk]; exact le_line hl) fun h' tk acc c hk hS hacc => ?_
  have len : acc.size = vs.length := hacc.1
  have eacc : acc.toList = vs.map (·.2) := PySem.W.kdl_vals_eq acc.toList (by rw [Array.length_toList]; exact len) fun j v hj => hacc.2 j v (by rwa [Array.getElem?_toList] at hj)
  have lenO : (kvs.map (·.2)).length ≤ sizeLine := by
    rw [List.length_map]
    exact le_line hl
  exact ⟨.ref _, upd H1 _ (.lst (kvs.map (·.2))), I2.laid (t' := tk) hk (Nat.le_refl _) ⟨lenO, acc.toList, c, by rw [eacc]; exact kv_vals kv, by rw [Array.toArray_toList]; exact hS⟩, rfl, q _ (I2.hok.fresh (Nat.le_refl _))⟩
def fListVals (f : Sl → Rs NV) : Sl → Rs RV := fun S => (f S).bind fun n S1 => match view S1 n with
  | some (.dic ks ds) => if ks.length = ds.length ∧ ds.length ≤ 100000 then .ok (.ol ds) S1 else .no
  | _ => .no
theorem de_listVals (hc : X.calm = true) (hm : X.mg "list" = none) (he : DN X W e f1) (hg : Gl X "list" := by rfl) (hbase : attributeBase e "values" X.env (eval e X.env) = eval e X.env := by rfl) (hline : (apos.endLine == cpos.line) = true := by rfl)
    (hs : starEach [.Call (.Attribute e "values" apos) [] [] cpos] X.env = (false, eval (.Call (.Attribute e "values" apos) [] [] cpos) X.env) :: starEach [] X.env := by rfl) :
    DE X W (.Call (.Name "list" p) [.Call (.Attribute e "values" apos) [] [] cpos] [] pos) (fListVals f1) := by
  obtain ⟨t, pe, q⟩ := he
  refine ⟨_, pe_listVals hc pe hg hm (by decide +kernel) hbase hline hs, fun τ σ S G H s Q hq => ?_⟩
  refine Gd.cases (Q1 := fun x H1 => ∃ (d : Addr) (kvs : List (Key × V)), x = .ref d ∧ Rd H1 d (.dK kvs) ∧ kvs.length ≤ 100000 ∧ ∀ q, H1 q = none → Q (.ref q) (upd H1 q (.lst (kvs.map (·.2))))) bkR q s hq fun x n S1 G1 H1 s1 P o hq1 => ?_
  cases ev : view S1 n with
  | none => simp only [ev] at hq1; exact hq1.elim
  | some d =>
    have hx := view_ok s1 o ev
    cases d <;> try (simp only [ev] at hq1; exact hq1.elim)
    rename_i ks ds
    simp only [ev] at hq1
    by_cases h : ks.length = ds.length ∧ ds.length ≤ 100000
    · rw [if_pos h] at hq1
      obtain ⟨a, ws, rfl, h1, rfl, h3⟩ := hx.dic s1.le
      have el : ws.length = ds.length := by simpa using h.1
      exact ⟨a, ws, rfl, h1, by omega, fun p hp => hq1 _ G1 _ (Pst.new s1 (stp_new hp) (le_new s1.le hp)) (okr_newL s1.le hp h3)⟩
    · rw [if_neg h] at hq1
      exact hq1.elim
end
end DL
set_option Elab.async false
set_option linter.all false
set_option maxRecDepth 100000
set_option maxHeartbeats 4000000
/-! DL25: the steps behind the door (printed by ggen.py). -/
namespace DL
open PySem L2
variable {f g : Sl → Rs RV} {f1 g1 h1 : Sl → Rs NV} {fb gb : Sl → Rs Bool} {fa : Sl → Rs (List NV)} {S : Sl} {F G : Sl → Out} {N : Sl → Prop} {R : RV → Sl → Prop} {B C : Sl → Prop} {P : RV → Sl → Prop} {i j : Nat}
theorem G_oP_i {α : Type} {o : Option α} {x : α} {P : α → Prop} (h : o = some x) (k : GG (P x)) : GG (oP o P) := gg_imp (oP_i h) k
theorem G_oP_c {α : Type} {c : Prop} [Decidable c] {x : α} {P : α → Prop} (h : c) (k : GG (P x)) : GG (oP (if c then some x else none) P) := gg_imp (oP_c h) k
theorem G_ite_t {b : Bool} {A B : Prop} (h : b = true) (k : GG (A)) : GG (if b = true then A else B) := gg_imp (ite_t h) k
theorem G_ite_f {b : Bool} {A B : Prop} (h : b = false) (k : GG (B)) : GG (if b = true then A else B) := gg_imp (ite_f h) k
theorem G_i_Var {d : D} (h : S[i]? = some (.f d)) (k : GG (P (.f d) S)) : GG (wp (fVar i S) P) := gg_imp (i_Var h) k
theorem G_i_VarL {t : Option Nat} {ds : List D} (h : S[i]? = some (.ol t ds)) (k : GG (P (.bo i) S)) : GG (wp (fVar i S) P) := gg_imp (i_VarL h) k
theorem G_i_VarD {t : Option Nat} {ks : List Key} {ds : List D} (h : S[i]? = some (.od t ks ds)) (k : GG (P (.bo i) S)) : GG (wp (fVar i S) P) := gg_imp (i_VarD h) k
theorem G_i_VarF {d : D} (h : S[i]? = some (.f d)) (k : GG (P (.f d) S)) : GG (wp (fVarF i S) P) := gg_imp (i_VarF h) k
theorem G_i_VarFL {ds : List D} (h : S[i]? = some (.ol none ds)) (k : GG (P (.f (.lst ds)) (S.set i (.f (.lst ds))))) : GG (wp (fVarF i S) P) := gg_imp (i_VarFL h) k
theorem G_i_VarFD {ks : List Key} {ds : List D} (h : S[i]? = some (.od none ks ds)) (k : GG (P (.f (.dic ks ds)) (S.set i (.f (.dic ks ds))))) : GG (wp (fVarF i S) P) := gg_imp (i_VarFD h) k
theorem G_i_bOf {n : NV} {b : Bool} {P : Bool → Sl → Prop} (h : n = .f (.bl b)) (k : GG (P b S)) : GG (wp (bOf n S) P) := gg_imp (i_bOf h) k
theorem G_i_iOf {n : NV} {b : Int} {P : Int → Sl → Prop} (h : n = .f (.int b)) (k : GG (P b S)) : GG (wp (iOf n S) P) := gg_imp (i_iOf h) k
theorem G_i_anyL {n : NV} {ds : List D} {P : List D → Sl → Prop} (h : n = .f (.lst ds)) (k : GG (P ds S)) : GG (wp (anyOf n S) P) := gg_imp (i_anyL h) k
theorem G_i_anyT {n : NV} {ds : List D} {P : List D → Sl → Prop} (h : n = .f (.tup ds)) (k : GG (P ds S)) : GG (wp (anyOf n S) P) := gg_imp (i_anyT h) k
theorem G_i_items {n : NV} {ks : List Key} {ds : List D} {P : List D → Sl → Prop} (h : n = .f (.dic ks ds)) (k : GG (P (itemsD ks ds) S)) : GG (wp (itemsOf n S) P) := gg_imp (i_items h) k
theorem G_i_numL {ns : List NV} {ds : List D} {P : List D → Sl → Prop} (h : ns = [.f (.lst ds)]) (k : GG (P (numbered 0 ds) S)) : GG (wp (numOfA ns S) P) := gg_imp (i_numL h) k
theorem G_i_numT {ns : List NV} {ds : List D} {P : List D → Sl → Prop} (h : ns = [.f (.tup ds)]) (k : GG (P (numbered 0 ds) S)) : GG (wp (numOfA ns S) P) := gg_imp (i_numT h) k
theorem G_i_zip {ns : List NV} {ds es : List D} {P : List D → Sl → Prop} (h : ns = [.f (.lst ds), .f (.lst es)]) (k : GG (P (zipped ds es) S)) : GG (wp (zipOf ns S) P) := gg_imp (i_zip h) k
theorem G_i_rng1 {ns : List NV} {b : Int} {P : List D → Sl → Prop} (h : ns = [.f (.int b)]) (hb : -(2 ^ 62) ≤ b ∧ b < 2 ^ 62) (k : GG (P (intsFrom 0 b.toNat) S)) : GG (wp (rng1 ns S) P) := gg_imp (i_rng1 h hb) k
theorem G_i_rng2 {ns : List NV} {a b : Int} {P : List D → Sl → Prop} (h : ns = [.f (.int a), .f (.int b)]) (hb : -(2 ^ 62) ≤ a ∧ a < 2 ^ 62 ∧ -(2 ^ 62) ≤ b ∧ b < 2 ^ 62) (k : GG (P (intsFrom a (b - a).toNat) S)) : GG (wp (rng2 ns S) P) := gg_imp (i_rng2 h hb) k
theorem G_i_App {ns : List NV} {d : D} {t : Option Nat} {ds : List D} (h : ns = [.f d]) (hl : ds.length < 100000) (k : GG (P (.f .non) (S.set j (.ol t (ds ++ [d]))))) : GG (wp (kAppend j ns t ds S) P) := gg_imp (i_App h hl) k
theorem G_i_Ext {ns : List NV} {es : List D} {t : Option Nat} {ds : List D} (h : ns = [.f (.lst es)]) (hl : ds.length + es.length ≤ 100000) (k : GG (P (.f .non) (S.set j (.ol t (ds ++ es))))) : GG (wp (kExtend j ns t ds S) P) := gg_imp (i_Ext h hl) k
theorem G_i_Pop {ns : List NV} {d : D} {t : Option Nat} {ds : List D} (h : ns = []) (hl : ds[ds.length - 1]? = some d) (k : GG (P (.f d) (S.set j (.ol t ds.dropLast)))) : GG (wp (kPop j ns t ds S) P) := gg_imp (i_Pop h hl) k
theorem G_i_ownAt {t : Option Nat} {ds : List D} {P : Option Nat → List D → Prop} (h : S[j]? = some (.ol t ds)) (k : GG (P t ds)) : GG (ownAt S j P) := gg_imp (i_ownAt h) k
theorem G_i_Own {k : List NV → Option Nat → List D → Sl → Rs RV} (h : isOl (S[j]?) = true) (q : GG (wp (fa S) fun ns S2 => ownAt S2 j fun t ds => wp (k ns t ds S2) P)) : GG (wp (fOwn j fa k S) P) := gg_imp (i_Own h) q
theorem G_i_put {n m : NV} {d : D} {k : Int} {t : Option Nat} {ds : List D} {q : Nat} (h1 : n = .f d) (h2 : m = .f (.int k)) (h3 : S[j]? = some (.ol t ds)) (h4 : ixN ds.length k = some q) (h : GG (N (S.set j (.ol t (ds.set q d))))) : GG (putAt j n m S N) := gg_imp (i_put h1 h2 h3 h4) h
theorem G_i_own0 {ds : List D} {P : List D → Prop} (h : S[(0 : Nat)]? = some (.ol (some 0) ds)) (k : GG (P ds)) : GG (own0 S P) := gg_imp (i_own0 h) k
theorem G_i_lent {ns rest : List NV} {t : Option Nat} {ds es : List D} {P : Nat → Option Nat → List D → List D → Prop} (h : ns = .bo i :: rest) (h2 : S[i]? = some (.ol t ds)) (h3 : dsOf rest = some es) (k : GG (P i t ds es)) : GG (lent ns S P) := gg_imp (i_lent h h2 h3) k
theorem G_i_rtf {r : RV} {d : D} (h : r = .f d) (k : GG (R (.f d) S)) : GG (wo (rtOut r S) N R B C) := gg_imp (i_rtf h) k
theorem G_i_rtl {r : RV} {d : List D} (h : r = .ol d) (k : GG (R (.ol d) S)) : GG (wo (rtOut r S) N R B C) := gg_imp (i_rtl h) k
theorem G_i_rtd {r : RV} {ks : List Key} {d : List D} (h : r = .od ks d) (k : GG (R (.od ks d) S)) : GG (wo (rtOut r S) N R B C) := gg_imp (i_rtd h) k
theorem G_i_rtb {r : RV} {ds : List D} (h : r = .bo i) (h2 : S[i]? = some (.ol none ds)) (k : GG (R (.ol ds) (S.set i .u))) : GG (wo (rtOut r S) N R B C) := gg_imp (i_rtb h h2) k
theorem G_i_rtbd {r : RV} {ks : List Key} {ds : List D} (h : r = .bo i) (h2 : S[i]? = some (.od none ks ds)) (k : GG (R (.od ks ds) (S.set i .u))) : GG (wo (rtOut r S) N R B C) := gg_imp (i_rtbd h h2) k
theorem G_i_and {A B : Prop} (h : A) (k : GG (B)) : GG (A ∧ B) := gg_imp (i_and h) k
theorem G_i_oI {g : Int → Int → D} {c : Int → Int → Bool} {x y : Int} {P : RV → Prop} (h : c x y = true) (k : GG (P (.f (g x y)))) : GG (oP (oI g c (.int x) (.int y)) P) := gg_imp (i_oI h) k
theorem G_i_oRep {x y : Int} {P : RV → Prop} (h : (small64 x || small64 y) = true) (k : GG (P (.f (.int (x * y))))) : GG (oP (oRep (.int x) (.int y)) P) := gg_imp (i_oRep h) k
theorem G_i_cat {x y : Int} {P : RV → Prop} (k : GG (P (.f (.int (x + y))))) : GG (oP (oCat (.int x) (.int y)) P) := gg_imp (i_cat ) k
theorem G_i_repL {xs : List D} {k : Int} {P : RV → Prop} (h : -(2 ^ 63) ≤ k ∧ k < 2 ^ 63 ∧ xs.length * k.toNat ≤ 100000) (q : GG (P (.ol (repD k.toNat xs)))) : GG (oP (oRep (.lst xs) (.int k)) P) := gg_imp (i_repL h) q
theorem G_i_catL {xs ys : List D} {P : RV → Prop} (h : xs.length + ys.length ≤ 100000) (q : GG (P (.ol (xs ++ ys)))) : GG (oP (oCat (.lst xs) (.lst ys)) P) := gg_imp (i_catL h) q
theorem G_i_catT {xs ys : List D} {P : RV → Prop} (h : xs.length + ys.length ≤ 100000) (q : GG (P (.f (.tup (xs ++ ys))))) : GG (oP (oCat (.tup xs) (.tup ys)) P) := gg_imp (i_catT h) q
theorem G_i_catS {x y : Str} {P : RV → Prop} (h : x.length + y.length ≤ 100000) (q : GG (P (.f (.str (x ++ y))))) : GG (oP (oCat (.str x) (.str y)) P) := gg_imp (i_catS h) q
theorem G_i_ixL {P : RV → Prop} {i : Int} {xs : List D} (h : 0 ≤ i ∧ i < xs.length) (k : ∀ d, d ∈ xs → xs[i.toNat]? = some d → GG (P (.f d))) : GG (oP (oIx (.lst xs) (.int i)) P) := gg_in (i_ixL h fun z0 z1 z2 => gg_out (k z0 z1 z2))
theorem G_i_ixT {P : RV → Prop} {i : Int} {xs : List D} (h : 0 ≤ i ∧ i < xs.length) (k : ∀ d, d ∈ xs → xs[i.toNat]? = some d → GG (P (.f d))) : GG (oP (oIx (.tup xs) (.int i)) P) := gg_in (i_ixT h fun z0 z1 z2 => gg_out (k z0 z1 z2))
theorem G_i_ixZ {P : RV → Prop} {i : Int} {ns : List Int} (h : 0 ≤ i ∧ i < ns.length) (k : ∀ n, n ∈ ns → ns[i.toNat]? = some n → GG (P (.f (.int n)))) : GG (oP (oIx (.scr ns) (.int i)) P) := gg_in (i_ixZ h fun z0 z1 z2 => gg_out (k z0 z1 z2))
theorem G_i_ixS {P : RV → Prop} {i : Int} {x : Str} (hl : x.length ≤ 100000) (h : 0 ≤ i ∧ i < x.length) (k : ∀ c, c ∈ x.cps.toList → x.cps.toList[i.toNat]? = some c → GG (P (.f (.str (sgn c))))) : GG (oP (oIx (.str x) (.int i)) P) := gg_in (i_ixS hl h fun z0 z1 z2 => gg_out (k z0 z1 z2))
theorem G_i_ix2 {P : RV → Prop} {i : Int} {xs : List D} {a b : D} (h : xs = [a, b]) (hi : 0 ≤ i ∧ i < 2) (k : ∀ d, (i = 0 ∧ d = a) ∨ (i = 1 ∧ d = b) → GG (P (.f d))) : GG (oP (oIx (.lst xs) (.int i)) P) := gg_in (i_ix2 h hi fun z0 z1 => gg_out (k z0 z1))
theorem G_i_ix2I {P : RV → Prop} {i : Int} {xs : List D} {a b : Int} (h : xs = [.int a, .int b]) (hi : 0 ≤ i ∧ i < 2) (k : ∀ d, (i = 0 ∧ d = a) ∨ (i = 1 ∧ d = b) → GG (P (.f (.int d)))) : GG (oP (oIx (.lst xs) (.int i)) P) := gg_in (i_ix2I h hi fun z0 z1 => gg_out (k z0 z1))
theorem G_i_ix3I {P : RV → Prop} {i : Int} {xs : List D} {a b c : Int} (h : xs = [.int a, .int b, .int c]) (hi : 0 ≤ i ∧ i < 3) (k : ∀ d, d = a ∨ d = b ∨ d = c → GG (P (.f (.int d)))) : GG (oP (oIx (.lst xs) (.int i)) P) := gg_in (i_ix3I h hi fun z0 z1 => gg_out (k z0 z1))
theorem G_i_ix4I {P : RV → Prop} {i : Int} {xs : List D} {a b c e : Int} (h : xs = [.int a, .int b, .int c, .int e]) (hi : 0 ≤ i ∧ i < 4) (k : ∀ d, d = a ∨ d = b ∨ d = c ∨ d = e → GG (P (.f (.int d)))) : GG (oP (oIx (.lst xs) (.int i)) P) := gg_in (i_ix4I h hi fun z0 z1 => gg_out (k z0 z1))
theorem G_i_ix6I {P : RV → Prop} {i : Int} {xs : List D} {a b c e f g : Int} (h : xs = [.int a, .int b, .int c, .int e, .int f, .int g]) (hi : 0 ≤ i ∧ i < 6) (k : ∀ d, d = a ∨ d = b ∨ d = c ∨ d = e ∨ d = f ∨ d = g → GG (P (.f (.int d)))) : GG (oP (oIx (.lst xs) (.int i)) P) := gg_in (i_ix6I h hi fun z0 z1 => gg_out (k z0 z1))
theorem G_i_ix6S {P : RV → Prop} {i : Int} {xs : List D} {a b c e f g : Str} (h : xs = [.str a, .str b, .str c, .str e, .str f, .str g]) (hi : 0 ≤ i ∧ i < 6) (k : ∀ d, d = a ∨ d = b ∨ d = c ∨ d = e ∨ d = f ∨ d = g → GG (P (.f (.str d)))) : GG (oP (oIx (.lst xs) (.int i)) P) := gg_in (i_ix6S h hi fun z0 z1 => gg_out (k z0 z1))
theorem G_i_joinS {cs : List Nat} {P : RV → Prop} (hl : cs.length ≤ 1000) (k : GG (P (.f (.str (ofCps cs))))) : GG (oP (oJoin (.str (PySem.Str.ofString "")) (.lst (cs.map fun c => D.str (sgn c)))) P) := gg_imp (i_joinS hl) k
theorem G_i_cMin {ds : List D} {i j : Int} {P : RV → Prop} (h : ds = [.int i, .int j]) (k : ∀ m, m ≤ i ∧ m ≤ j ∧ (m = i ∨ m = j) → GG (P (.f (.int m)))) : GG (oP (cMin ds) P) := gg_in (i_cMin h fun z0 z1 => gg_out (k z0 z1))
theorem G_i_cMax {ds : List D} {i j : Int} {P : RV → Prop} (h : ds = [.int i, .int j]) (k : ∀ m, i ≤ m ∧ j ≤ m ∧ (m = i ∨ m = j) → GG (P (.f (.int m)))) : GG (oP (cMax ds) P) := gg_in (i_cMax h fun z0 z1 => gg_out (k z0 z1))
theorem G_i_isInt {d : D} {P : RV → Prop} (h : kno d = true) (k : GG (P (.f (.bl (isInt d))))) : GG (oP (cIsi [d, .ty "int"]) P) := gg_imp (i_isInt h) k
theorem G_i_isBool {d : D} {P : RV → Prop} (h : kno d = true) (k : GG (P (.f (.bl (isBool d))))) : GG (oP (cIsi [d, .ty "bool"]) P) := gg_imp (i_isBool h) k
theorem G_i_isStr {d : D} {P : RV → Prop} (h : kno d = true) (k : GG (P (.f (.bl (isStrD d))))) : GG (oP (cIsi [d, .ty "str"]) P) := gg_imp (i_isStr h) k
theorem G_i_isLst {d : D} {P : RV → Prop} (h : kno d = true) (k : GG (P (.f (.bl (isLst d))))) : GG (oP (cIsi [d, .ty "list"]) P) := gg_imp (i_isLst h) k
theorem G_i_isTup {d : D} {P : RV → Prop} (h : kno d = true) (k : GG (P (.f (.bl (isTup d))))) : GG (oP (cIsi [d, .ty "tuple"]) P) := gg_imp (i_isTup h) k
theorem G_i_isDic {d : D} {P : RV → Prop} (h : kno d = true) (k : GG (P (.f (.bl (isDic d))))) : GG (oP (cIsi [d, .ty "dict"]) P) := gg_imp (i_isDic h) k
theorem G_i_isLT  (h : GG (wp (f1 S) fun n S1 => oP (view S1 n) fun d => kno d = true ∧ P (.f (.bl (isLT d))) S1)) : GG (wp (fIsi2 "list" "tuple" f1 S) P) := gg_imp (i_isLT ) h
theorem G_i_retP {ds : List D} (h : S[i]? = some (.ol none ds)) (k : GG (R (.ol ds) (S.set i .u))) : GG ((match S[i]? with
    | some (.ol none ds) => R (.ol ds) (S.set i .u)
    | _ => False)) := gg_imp (i_retP h) k
theorem G_i_ixTn {P : RV → Prop} {xs : List D}  {n : Nat} {d : D} (h : xs[n]? = some d) (k : GG (P (.f d))) : GG (oP (oIx (.tup xs) (.int (n : Nat))) P) := gg_imp (i_ixTn h) k
theorem G_i_ixLn {P : RV → Prop} {xs : List D}  {n : Nat} {d : D} (h : xs[n]? = some d) (k : GG (P (.f d))) : GG (oP (oIx (.lst xs) (.int (n : Nat))) P) := gg_imp (i_ixLn h) k
theorem G_i_tail {P : RV → Prop}  {d : D} {ds : List D} (k : GG (P (.f (.tup ds)))) : GG (oP (oSl (.tup (d :: ds)) (some 1) none) P) := gg_imp (i_tail ) k
theorem G_i_strAt {n : NV} {z : Str} {P : Str → Prop} (h : n = .f (.str z)) (k : GG (P z)) : GG (strAt n P) := gg_imp (i_strAt h) k
theorem G_i_starAt {n : NV} {d : D} {ds : List D} {P : D → List D → Prop} (h : n = .f (.tup (d :: ds))) (k : GG (P d ds)) : GG (starAt n P) := gg_imp (i_starAt h) k
theorem G_i_ownN {ds : List D} {P : List D → Prop} (h : S[i]? = some (.ol none ds)) (k : GG (P ds)) : GG (ownN S i P) := gg_imp (i_ownN h) k
theorem G_i_seqN  (h : GG (wo (F S) (fun S1 => wo (G S1) N R B C) (fun _ _ => False) (fun _ => False) (fun _ => False))) : GG (wo (sSeqN F G S) N R B C) := gg_imp (i_seqN ) h
theorem G_i_lenS {x : Str} {ds : List D} {P : RV → Prop} (h : ds = [.str x]) (hl : x.length ≤ 100000) (k : GG (P (.f (.int x.length)))) : GG (oP (cLenA ds) P) := gg_imp (i_lenS h hl) k
theorem G_i_strip {x y : Str} {P : RV → Prop} (hl : x.length ≤ 100000) (k : GG (P (.f (.str (Txt.stripChars x y))))) : GG (oP (oStrip (.str x) (.str y)) P) := gg_imp (i_strip hl) k
theorem G_i_allT {ds xs : List D} {P : RV → Prop} (h : ds = [.lst xs]) (hx : ∀ d ∈ xs, d = .bl true) (k : GG (P (.f (.bl true)))) : GG (oP (cAll ds) P) := gg_imp (i_allT h hx) k
theorem G_i_ixT0 {d : D} {ds : List D} {P : RV → Prop} (k : GG (P (.f d))) : GG (oP (oIx (.tup (d :: ds)) (.int 0)) P) := gg_imp (i_ixT0 ) k
theorem G_i_ixT1 {d e : D} {ds : List D} {P : RV → Prop} (k : GG (P (.f e))) : GG (oP (oIx (.tup (d :: e :: ds)) (.int 1)) P) := gg_imp (i_ixT1 ) k
theorem G_i_ixT2 {d e f : D} {ds : List D} {P : RV → Prop} (k : GG (P (.f f))) : GG (oP (oIx (.tup (d :: e :: f :: ds)) (.int 2)) P) := gg_imp (i_ixT2 ) k
theorem G_i_ixT3 {d e f g : D} {ds : List D} {P : RV → Prop} (k : GG (P (.f g))) : GG (oP (oIx (.tup (d :: e :: f :: g :: ds)) (.int 3)) P) := gg_imp (i_ixT3 ) k
theorem G_i_ixL0 {d : D} {ds : List D} {P : RV → Prop} (k : GG (P (.f d))) : GG (oP (oIx (.lst (d :: ds)) (.int 0)) P) := gg_imp (i_ixL0 ) k
theorem G_i_ixL1 {d e : D} {ds : List D} {P : RV → Prop} (k : GG (P (.f e))) : GG (oP (oIx (.lst (d :: e :: ds)) (.int 1)) P) := gg_imp (i_ixL1 ) k
theorem G_i_ixL2 {d e f : D} {ds : List D} {P : RV → Prop} (k : GG (P (.f f))) : GG (oP (oIx (.lst (d :: e :: f :: ds)) (.int 2)) P) := gg_imp (i_ixL2 ) k
theorem G_i_reprL {ds xs : List D} {P : RV → Prop} (h : ds = [.lst xs]) (hok : okRp (.lst xs) = true) (k : GG (P (.f (.str (rp (.lst xs)))))) : GG (oP (cRepr ds) P) := gg_imp (i_reprL h hok) k
theorem G_i_reprT {ds xs : List D} {P : RV → Prop} (h : ds = [.tup xs]) (hok : okRp (.tup xs) = true) (k : GG (P (.f (.str (rp (.tup xs)))))) : GG (oP (cRepr ds) P) := gg_imp (i_reprT h hok) k
theorem G_ite_nself {α : Type} [DecidableEq α] {a : α} {A B : Prop} (k : GG (B)) : GG (if (!decide (a = a)) = true then A else B) := gg_imp (ite_nself ) k
theorem G_ite_self {α : Type} [DecidableEq α] {a : α} {A B : Prop} (k : GG (A)) : GG (if (decide (a = a)) = true then A else B) := gg_imp (ite_self ) k
theorem G_i_reprD {ds es : List D} {ks : List Key} {P : RV → Prop} (h : ds = [.dic ks es]) (hok : okDic ks es = true) (k : GG (P (.f (.str (rpD ks es))))) : GG (oP (cRepr ds) P) := gg_imp (i_reprD h hok) k
theorem G_i_rep1 {xs : List D} {d : D} {k : Int} {P : RV → Prop} (h : xs = [d]) (hk : 0 ≤ k ∧ k ≤ 100000) (q : GG (P (.ol (List.replicate k.toNat d)))) : GG (oP (oRep (.lst xs) (.int k)) P) := gg_imp (i_rep1 h hk) q
theorem G_i_bof {d : D} {A : Prop} (k : GG (A)) : GG ((∀ i, RV.f d ≠ .bo i) ∧ A) := gg_imp (i_bof ) k
theorem G_i_bol {d : List D} {A : Prop} (k : GG (A)) : GG ((∀ i, RV.ol d ≠ .bo i) ∧ A) := gg_imp (i_bol ) k
theorem G_i_bod {ks : List Key} {d : List D} {A : Prop} (k : GG (A)) : GG ((∀ i, RV.od ks d ≠ .bo i) ∧ A) := gg_imp (i_bod ) k
end DL
set_option Elab.async false
set_option linter.all false
set_option maxRecDepth 100000
set_option maxHeartbeats 4000000
/-! DL30: more steps: -x, sorted(set(xs)), list(d.values()), sum(xs), xs[-1], x in xs. -/
namespace DL
open PySem L2
section
variable {f g : Sl → Rs RV} {f1 g1 h1 : Sl → Rs NV} {S : Sl} {P : RV → Sl → Prop}
theorem wp_Neg : wp (fNeg f1 S) P = wp (f1 S) fun n S1 => wp (iOf n S1) fun i S2 => P (.f (.int (-i))) S2 := by
  unfold fNeg
  rw [wp_bind]
  congr
  funext n S1
  rw [wp_bind]
  rfl
def valsAt (d : D) (Q : List D → Prop) : Prop := match d with
  | .dic ks ds => (ks.length = ds.length ∧ ds.length ≤ 100000) ∧ Q ds
  | _ => False
theorem wp_ListVals : wp (fListVals f1 S) P = wp (f1 S) fun n S1 => oP (view S1 n) fun d => valsAt d fun ds => P (.ol ds) S1 := by
  unfold fListVals
  rw [wp_bind]
  congr
  funext n S1
  cases view S1 n with
  | none => rfl
  | some d =>
    cases d <;> try rfl
    exact wp_ifno
end
section
variable {P : RV → Prop}
theorem intsOf_map : ∀ ns : List Int, intsOf (ns.map D.int) = some ns
  | [] => rfl
  | n :: ns => by
    have := intsOf_map ns
    simp [intsOf, this]
theorem i_intsV {ns : List Int} {Q : List Int → Prop} (k : Q ns) : oP (intsV (.lst (ns.map D.int))) Q := by
  show oP (intsOf (ns.map D.int)) Q
  rw [intsOf_map]
  exact k
theorem G_i_intsV {ns : List Int} {Q : List Int → Prop} (k : GG (Q ns)) : GG (oP (intsV (.lst (ns.map D.int))) Q) := gg_imp i_intsV k
theorem G_i_vals {kvs : List (Int × Int)} {Q : List D → Prop} (hl : kvs.length ≤ 100000) (k : GG (Q (valsI kvs))) : GG (valsAt (.dic (keysI kvs) (valsI kvs)) Q) := gg_imp (fun k => ⟨⟨by simp [keysI, valsI], by simp [valsI]; omega⟩, k⟩) k
theorem sum_ints {ns : List Int} : cSum [.lst (ns.map D.int)] = some (.f (.int ns.sum)) := by
  unfold cSum
  simp only [intsOf_map, Option.map_some]
theorem in_ints {neg : Bool} {i : Int} {ns : List Int} : oInI neg (.int i) (.lst (ns.map D.int)) = some (.f (.bl (if neg = true then !decide (i ∈ ns) else decide (i ∈ ns)))) := by
  unfold oInI
  simp only [intsOf_map, Option.map_some]
theorem i_ixLast {xs : List D} {d : D} (h : xs.getLast? = some d) (k : P (.f d)) : oP (oIx (.lst xs) (.int (-1))) P := by
  have hx : xs ≠ [] := fun e => by rw [e] at h; cases h
  have hl : 0 < xs.length := List.length_pos_iff.mpr hx
  have e : atI xs (-1) = some d := by
    unfold atI ixN
    rw [if_neg (by omega), if_pos (by omega)]
    rw [List.getLast?_eq_getElem?] at h
    rw [show ((-1 : Int) + xs.length).toNat = xs.length - 1 from by omega]
    exact h
  unfold oIx
  simp only [e, Option.map_some, oP_some]
  exact k
end
end DL
set_option Elab.async false
set_option linter.all false
set_option maxRecDepth 100000
set_option maxHeartbeats 4000000
/-! DL31: sorted(set(e)), e a list of ints, up to 19,999 of them. -/
namespace DL
open PySem PySem.Spec PyProof.Rows L2
/-- the set of ints at a, of any size -/
def SetB (w : World) (a : Addr) (S : Int → Bool) (n : Nat) : HO := .ext fun h => SetG w h a S n
section
variable {X : Cx}
theorem setB_new {w : World} {P : Program} {H : Hp} {h : Heap} {a : Addr} {S : Int → Bool} {n : Nat} (R : SetG w h a S n) : ObjOk P w H h a (SetB w a S n) := by
  have ⟨o, _, _, _, ho, _⟩ := R
  exact ⟨R, ⟨o, ho⟩, fun h1 h2 p k => SetG.at p k⟩
theorem setB_get {pins : List (Addr × Obj)} {σ : L2.St} {H : Hp} {s : Shared} {a : Addr} {S : Int → Bool} {n : Nat} (I : Inv X pins σ H s) (ha : H a = some (SetB X.w a S n)) : SetG X.w s.heap a S n := (I.hok a _ ha).1
end
section
variable {X : Cx} {W : WX'} {K : PySem.W.Frag}
def rSetG (K : PySem.W.Frag) (w : World) : List V → Hp → VK → Prop := fun xs H Q => ∃ (l : Addr) (ns : List Int), xs = [V.ref l] ∧ SqL K H l (ns.map V.int) ∧ (ns.length ≤ 19999 ∧ ∀ k ∈ ns, 0 ≤ k ∧ k < 2 ^ 60) ∧
  ∀ p c, H p = none → c ≤ ns.length → Q (.ref p) (upd H p (SetB w p (fun j => decide (j ∈ ns)) c))
theorem cr_setG (hc : X.calm = true) : CallR X (.type "set") (rSetG X.K X.w) := by
  intro pins s σ H xs us Q I r h
  obtain ⟨l, ns, rfl, hl, ⟨hb, nn⟩, q⟩ := h
  rw [Vals.ref1 r]
  obtain ⟨its, rv, pl, hz⟩ := I.list hl
  refine made_of_ints (P := X.prog) (w := X.w) ns (I.ok.hd hc) pl.isList (by simpa using rv.ints) hb nn fun h' tk c R le k => ?_
  exact ⟨.ref _, upd H s.heap.objs.size (SetB X.w s.heap.objs.size (fun j => decide (j ∈ ns)) c), I.laid (t' := tk) k (Nat.le_refl _) (setB_new R), rfl, q _ c (I.hok.fresh (Nat.le_refl _)) le⟩
def rSortedSetG (w : World) : List V → Hp → VK → Prop := fun vs H Q => ∃ (a : Addr) (S : Int → Bool) (n : Nat), vs = [V.ref a] ∧ H a = some (SetB w a S n) ∧ n ≤ 100000 ∧
  ∀ (ns : List Int) (p : Addr), ns.Pairwise (· < ·) → (∀ k : Int, k ∈ ns ↔ S k = true) → H p = none → Q (.ref p) (upd H p (.lst (ns.map V.int)))
theorem cr_sortedSetG (hc : X.calm = true) : CallR X (.builtin "sorted") (rSortedSetG X.w) := by
  intro pins s σ H vs us Q I r h
  obtain ⟨a, S, n, rfl, ha, hl, q⟩ := h
  have R := setB_get I ha
  rw [Vals.ref1 r]
  refine sort_set R (I.ok.hd hc) (le_line hl) fun t p out c ns k g o hp hg hi hs hm hn => ?_
  have lenO : (ns.map V.int).length ≤ sizeLine := by
    rw [List.length_map, hn]
    exact le_line hl
  have fresh : H p = none := I.hok.fresh hp
  have J : Inv X pins σ (upd H p (.lst (ns.map V.int))) { s with heap := t.heap, gens := t.gens, drawn := t.drawn, toks := t.toks } :=
    I.call (ch := []) (Un.laid k hp fresh) (I.hok.laid k hp ⟨lenO, out, c, vals_of_ints hi, hg⟩) (by rw [g]; exact I.bare) (fun _ z => nomatch z)
  have e : t = { s with heap := t.heap, gens := t.gens, drawn := t.drawn, toks := t.toks } := by
    cases t
    cases s
    cases o
    rfl
  rw [e]
  exact ⟨.ref p, _, J, rfl, q ns p hs hm fresh⟩
def fSortedSetG (f : Sl → Rs NV) : Sl → Rs RV := fun S => (f S).bind fun n S1 => match view S1 n with
  | some d => (match intsV d with
    | some ns => if ns.length ≤ 19999 ∧ ns.all (fun k => decide (0 ≤ k) && decide (k < 2 ^ 60)) = true then .ok (.ol ((ssort ns).map .int)) S1 else .no
    | none => .no)
  | none => .no
variable {a : Expr} {pos pos2 p1 p2 : Pos} {f1 : Sl → Rs NV}
theorem de_sortedSetG (hc : X.calm = true) (hm : X.mg "sorted" = none) (hm2 : X.mg "set" = none) (ha : DN X W a f1) (hg : Gl X "sorted" := by rfl) (hg2 : Gl X "set" := by rfl)
    (he : starEach [a] X.env = (false, eval a X.env) :: starEach [] X.env := by rfl) (hpl : (backTo pos2 (starEach [] X.env)).any (·.1) = false := by rfl)
    (he2 : starEach [.Call (.Name "set" p2) [a] [] pos2] X.env = (false, eval (.Call (.Name "set" p2) [a] [] pos2) X.env) :: starEach [] X.env := by rfl) (hpl2 : (backTo pos (starEach [] X.env)).any (·.1) = false := by rfl) :
    DE X W (.Call (.Name "sorted" p1) [.Call (.Name "set" p2) [a] [] pos2] [] pos) (fSortedSetG f1) := by
  obtain ⟨t, p, q⟩ := ha
  have pset := pe_callTy (pos := pos2) (p := p2) (cr_setG (X := X) hc) hg2 hm2 (by decide +kernel) (pa_cons p pa_nil he) (by decide) (by decide) he hpl
  refine ⟨_, pe_callB (cr_sortedSetG (X := X) hc) hg hm (by decide +kernel) (pa_cons pset pa_nil he2) (by decide) (by decide) he2 hpl2, fun τ σ S G H s Q hq => ?_⟩
  refine Gd.cases (Q1 := fun x H1 => rSetG X.K X.w [x] H1 fun y H2 => rSortedSetG X.w [y] H2 Q) bkR q s hq fun x n S1 G1 H1 s1 P o hq1 => ?_
  cases ev : view S1 n with
  | none => simp only [ev] at hq1; exact hq1.elim
  | some d =>
    cases ei : intsV d with
    | none => simp only [ev, ei] at hq1; exact hq1.elim
    | some ns =>
      simp only [ev, ei] at hq1
      by_cases hl : ns.length ≤ 19999 ∧ ns.all (fun k => decide (0 ≤ k) && decide (k < 2 ^ 60)) = true
      · rw [if_pos hl] at hq1
        have hx := view_ok s1 o ev
        cases d <;> try (cases ei; done)
        rename_i ds
        obtain ⟨l, vs, rfl, h1, h2⟩ := hx.lst s1.le
        rw [ints_ok ei h2] at h1
        refine ⟨l, ns, rfl, SqL.of h1, ⟨hl.1, fun k hk => by simpa using List.all_eq_true.mp hl.2 k hk⟩, fun p c hp hcl => ⟨p, _, c, rfl, upd_same, by omega, fun ks p3 hs hm hp3 => ?_⟩⟩
        have hp3' : H1 p3 = none := by
          by_cases e : p3 = p
          · subst e
            rw [upd_same] at hp3
            cases hp3
          · rwa [upd_ne e] at hp3
        have ek : ks = ssort ns := lt_ext hs (ssort_lt ns) fun z => by rw [hm z, ssort_mem]; simp
        subst ek
        have st1 : Stp (fun _ => False) G1 H1 G1 (upd H1 p (SetB X.w p (fun j => decide (j ∈ ns)) c)) := stp_new hp
        have P1 := Pst.new s1 st1 (le_new s1.le hp)
        have P2 := Pst.new P1.sl (stp_new (o := .lst ((ssort ns).map V.int)) hp3) (le_new (o := .lst ((ssort ns).map V.int)) P1.sl.le hp3)
        exact hq1 _ G1 _ (P1.trans P2) ⟨⟨p3, _, rfl, upd_same, s1.le.free hp3', rl_ints _⟩, fun q e => by cases e; exact hp3'⟩
      · rw [if_neg hl] at hq1
        exact hq1.elim
end
section
variable {f1 : Sl → Rs NV} {S : Sl} {P : RV → Sl → Prop}
def okSet (ns : List Int) : Prop := ns.length ≤ 19999 ∧ ns.all (fun k => decide (0 ≤ k) && decide (k < 2 ^ 60)) = true
theorem wp_SortedSetG : wp (fSortedSetG f1 S) P = wp (f1 S) fun n S1 => oP (view S1 n) fun d => oP (intsV d) fun ns => okSet ns ∧ P (.ol ((ssort ns).map .int)) S1 := by
  unfold fSortedSetG
  rw [wp_bind]
  congr
  funext n S1
  cases view S1 n with
  | none => rfl
  | some d =>
    simp only [oP_some]
    cases intsV d with
    | none => rfl
    | some ns => exact wp_ifno
theorem okSet_of {ns : List Int} (h : ns.length ≤ 19999) (k : ∀ x ∈ ns, 0 ≤ x ∧ x ≤ 1000000000) : okSet ns := ⟨h, List.all_eq_true.mpr fun x hx => by
  have := k x hx
  simp only [Bool.and_eq_true, decide_eq_true_eq]
  exact ⟨this.1, by omega⟩⟩
end
end DL
set_option Elab.async false
set_option linter.all false
set_option maxRecDepth 100000
set_option maxHeartbeats 4000000
/-! DL32: list(range(a, b)), [*xs, y]. -/
namespace DL
open PySem L2
section
variable {X : Cx} {W : WX'} {K : PySem.W.Frag} {a b e : Expr} {f1 g1 : Sl → Rs NV} {pos p p2 : Pos}
def rangeL (i j : Int) : List D := (List.range (j - i).toNat).map fun k => .int (i + (k : Nat))
theorem rangeL_eq {i j : Int} : rangeL i j = intsFrom i (j - i).toNat := rfl
def okRange (i j : Int) : Prop := -(2 ^ 62) ≤ i ∧ i < 2 ^ 62 ∧ -(2 ^ 62) ≤ j ∧ j < 2 ^ 62 ∧ (j - i).toNat ≤ 100000
instance (i j : Int) : Decidable (okRange i j) := inferInstanceAs (Decidable (_ ∧ _ ∧ _ ∧ _ ∧ _))
def fListRg (f g : Sl → Rs NV) : Sl → Rs RV := fun S => (f S).bind fun n S1 => (g S1).bind fun m S2 => (iOf n S2).bind fun i S3 => (iOf m S3).bind fun j S4 => if okRange i j then .ok (.ol (rangeL i j)) S4 else .no
theorem rl_range {G : Hp} (i j : Int) : RL K G (rangeL i j) (rgV i j) := by
  have := rl_ints (K := K) (G := G) ((List.range (j - i).toNat).map fun k => i + ((k : Nat) : Int))
  rw [List.map_map, List.map_map] at this
  exact this
theorem de_listRg (hc : X.calm = true) (hm : X.mg "list" = none) (hm2 : X.mg "range" = none) (ha : DN X W a f1) (hb : DN X W b g1) (hg : Gl X "list" := by rfl) (hg2 : Gl X "range" := by rfl)
    (na : starEach [a, b] X.env = (false, eval a X.env) :: starEach [b] X.env := by rfl) (nb : starEach [b] X.env = (false, eval b X.env) :: starEach [] X.env := by rfl) (hp : (backTo p2 (starEach [b] X.env)).any (·.1) = false := by rfl)
    (nc : starEach [.Call (.Name "range" p) [a, b] [] p2] X.env = (false, eval (.Call (.Name "range" p) [a, b] [] p2) X.env) :: starEach [] X.env := by rfl) {p3 : Pos} :
    DE X W (.Call (.Name "list" p3) [.Call (.Name "range" p) [a, b] [] p2] [] pos) (fListRg f1 g1) := by
  obtain ⟨ta, pa, qa⟩ := ha
  obtain ⟨tb, pb, qb⟩ := hb
  refine ⟨_, pe_listRg hc hg hm (prg_2 hg2 hm2 pa pb na nb hp) nc, fun τ σ S G H s Q hq => ?_⟩
  refine Gd.cases (Q1 := fun x H1 => tb σ H1 fun y H2 => ∃ i j, x = V.int i ∧ y = V.int j ∧ (RgOk i j ∧ ∀ q, H2 q = none → Q (.ref q) (upd H2 q (.lst (rgV i j))))) bkR qa s hq fun x n S1 G1 H1 s1 P oa hq1 => ?_
  refine Gd.cases (Q1 := fun y H2 => ∃ i j, x = V.int i ∧ y = V.int j ∧ (RgOk i j ∧ ∀ q, H2 q = none → Q (.ref q) (upd H2 q (.lst (rgV i j))))) bkR qb s1 hq1 fun y m S2 G2 H2 s2 P2 ob hq2 => ?_
  cases n with
  | bo i => exact hq2.elim
  | f d =>
    cases d <;> try exact hq2.elim
    rename_i i
    cases m with
    | bo i => exact hq2.elim
    | f d =>
      cases d <;> try exact hq2.elim
      rename_i j
      have hq3 : Gd (okR X.K σ) X.K W τ σ S2 G2 H2 (if okRange i j then .ok (.ol (rangeL i j)) S2 else .no) Q := hq2
      by_cases h : okRange i j
      · rw [if_pos h] at hq3
        obtain ⟨h1, h2, h3, h4, h5⟩ := h
        refine ⟨i, j, oa, ob, ⟨h1, h2, h3, h4, by omega⟩, fun q hqn => ?_⟩
        exact hq3 _ G2 _ (Pst.new s2 (stp_new hqn) (le_new s2.le hqn)) (okr_newL s2.le hqn (rl_range i j))
      · rw [if_neg h] at hq3
        exact hq3.elim
/-- [*xs, y] -/
def fStarL (f g : Sl → Rs NV) : Sl → Rs RV := fun S => (f S).bind fun n S1 => (anyOf n S1).bind fun ds S2 => (g S2).bind fun m S3 => match dOf m with
  | some d => if ds.length < 100000 then .ok (.ol (ds ++ [d])) S3 else .no
  | none => .no
theorem de_starL {sp_ : Pos} (ha : DN X W a f1) (hb : DN X W b g1) (hs : starEach (.Starred a sp_ :: [b]) X.env = (true, eval a X.env) :: starEach [b] X.env := by rfl) (nb : starEach [b] X.env = (false, eval b X.env) :: starEach [] X.env := by rfl) :
    DE X W (.List [.Starred a sp_, b] pos) (fStarL f1 g1) := by
  obtain ⟨ta, pa, qa⟩ := ha
  obtain ⟨tb, pb, qb⟩ := hb
  refine ⟨_, pe_lst (StX.pa_star pa (pa_cons pb pa_nil nb) hs), fun τ σ S G H s Q hq => ?_⟩
  refine Gd.cases (Q1 := fun x H1 => ∃ p xs, x = V.ref p ∧ (SqT X.K H1 p xs ∨ SqL X.K H1 p xs) ∧ tb σ H1 fun y H2 => (xs ++ [y]).length ≤ sizeLine ∧ ∀ p, H2 p = none → Q (.ref p) (upd H2 p (.lst (xs ++ [y])))) bkR qa s hq fun x n S1 G1 H1 s1 P oa hq1 => ?_
  have key : ∀ (ds : List D) (p : Addr) (xs : List V), x = V.ref p → (SqT X.K H1 p xs ∨ SqL X.K H1 p xs) → RL X.K G1 ds xs → Gd (okR X.K σ) X.K W τ σ S1 G1 H1 ((g1 S1).bind fun m S3 => match dOf m with
      | some d => if ds.length < 100000 then .ok (.ol (ds ++ [d])) S3 else .no
      | none => .no) Q → ∃ p xs, x = V.ref p ∧ (SqT X.K H1 p xs ∨ SqL X.K H1 p xs) ∧ tb σ H1 fun y H2 => (xs ++ [y]).length ≤ sizeLine ∧ ∀ p, H2 p = none → Q (.ref p) (upd H2 p (.lst (xs ++ [y]))) := by
    intro ds p xs hx hsq r hq2
    refine ⟨p, xs, hx, hsq, ?_⟩
    refine Gd.cases (Q1 := fun y H2 => (xs ++ [y]).length ≤ sizeLine ∧ ∀ p, H2 p = none → Q (.ref p) (upd H2 p (.lst (xs ++ [y])))) bkR qb s1 hq2 fun y m S2 G2 H2 s2 P2 ob hq3 => ?_
    cases m with
    | bo i => exact hq3.elim
    | f d =>
      have hq4 : Gd (okR X.K σ) X.K W τ σ S2 G2 H2 (if ds.length < 100000 then .ok (.ol (ds ++ [d])) S2 else .no) Q := hq3
      by_cases h : ds.length < 100000
      · rw [if_pos h] at hq4
        have r2 : RL X.K G2 (ds ++ [d]) (xs ++ [y]) := RL.app (RL.mono P2.st.ext _ _ r) (RL.cons ob RL.nil)
        refine ⟨by rw [r2.len]; exact le_line (by simp; omega), fun p hp => ?_⟩
        exact hq4 _ G2 _ (Pst.new s2 (stp_new hp) (le_new s2.le hp)) (okr_newL s2.le hp r2)
      · rw [if_neg h] at hq4
        exact hq4.elim
  cases n with
  | bo i => exact hq1.elim
  | f d =>
    cases d <;> try exact hq1.elim
    · rename_i ds
      obtain ⟨p, vs, h1, h2, h3⟩ := (RX.f oa : RX X.K G1 H1 (.lst ds) x).lst s1.le
      have h3' : RL X.K G1 ds vs := by
        have oa' : R X.K G1 (.lst ds) x := oa
        simp only [R] at oa'
        obtain ⟨q, ws, e1, e2, e3⟩ := oa'
        rw [h1] at e1
        cases e1
        have := s1.le.lst e2
        rw [h2] at this
        cases this
        exact e3
      exact key ds p vs h1 (.inr (SqL.of h2)) h3' hq1
    · rename_i ds
      have oa' : R X.K G1 (.tup ds) x := oa
      simp only [R] at oa'
      obtain ⟨q, ws, e1, e2, e3⟩ := oa'
      exact key ds q ws e1 (.inl (s1.le.sqt e2)) e3 hq1
end
/-! steps -/
section
variable {f1 g1 : Sl → Rs NV} {S : Sl} {P : RV → Sl → Prop}
theorem wp_ListRg : wp (fListRg f1 g1 S) P = wp (f1 S) fun n S1 => wp (g1 S1) fun m S2 => wp (iOf n S2) fun i S3 => wp (iOf m S3) fun j S4 => okRange i j ∧ P (.ol (rangeL i j)) S4 := by
  unfold fListRg
  rw [wp_bind]
  congr
  funext n S1
  rw [wp_bind]
  congr
  funext m S2
  rw [wp_bind]
  congr
  funext i S3
  rw [wp_bind]
  congr
  funext j S4
  exact wp_ifno
theorem wp_StarL : wp (fStarL f1 g1 S) P = wp (f1 S) fun n S1 => wp (anyOf n S1) fun ds S2 => wp (g1 S2) fun m S3 => oP (dOf m) fun d => ds.length < 100000 ∧ P (.ol (ds ++ [d])) S3 := by
  unfold fStarL
  rw [wp_bind]
  congr
  funext n S1
  rw [wp_bind]
  congr
  funext ds S2
  rw [wp_bind]
  congr
  funext m S3
  cases dOf m with
  | none => rfl
  | some d => exact wp_ifno
end
end DL
set_option Elab.async false
set_option linter.all false
set_option maxRecDepth 100000
set_option maxHeartbeats 4000000
/-! PT: instructions, codes, what they do, in plain Lean. -/
namespace DL
open PySem L2
inductive Ins where
  | less (lo : Int) (to : Nat) | within (lo hi : Int) (t : Str) | table (lo : Int) (ts : List (Option Str)) | bits (lo m : Int) (t : Str) | fin (t : Str)
def optD : Option Str → D
  | some t => .str t
  | none => .non
def seqD (g : Bool) (ds : List D) : D := match g with
  | true => .tup ds
  | false => .lst ds
def Ins.word : Ins → Str
  | .less _ _ => PySem.Str.ofString "less"
  | .within _ _ _ => PySem.Str.ofString "within"
  | .table _ _ => PySem.Str.ofString "table"
  | .bits _ _ _ => PySem.Str.ofString "bits"
  | .fin _ => PySem.Str.ofString "end"
def Ins.parts (g : Bool) : Ins → List D
  | .less lo to => [.int lo, .int (to : Nat)]
  | .within lo hi t => [.int lo, .int hi, .str t]
  | .table lo ts => [.int lo, seqD g (ts.map optD)]
  | .bits lo m t => [.int lo, .int m, .str t]
  | .fin t => [.str t]
def Ins.enc (g : Bool) (i : Ins) : D := .tup (.str i.word :: i.parts g)
def codeD (g : Bool) (c : List Ins) : D := seqD g (c.map (Ins.enc g))
def bitOn (m k : Int) : Bool := decide (Builtin.bitAnd (m / 2 ^ k.toNat) 1 = 1)
/-- the target that an instruction gives a value -/
def Ins.met : Ins → Int → Option Str
  | .less _ _, _ => none
  | .within lo hi t, v => if lo ≤ v ∧ v ≤ hi then some t else none
  | .table lo ts, v => if 0 ≤ v - lo ∧ v - lo < ts.length then (ts[(v - lo).toNat]?).join else none
  | .bits lo m t, v => if (0 ≤ v - lo ∧ v - lo < 64) ∧ bitOn m (v - lo) = true then some t else none
  | .fin t, v => if v ≥ 0 then some t else none
def Ins.next : Ins → Nat → Int → Nat
  | .less lo to, i, v => if v < lo then to else i + 1
  | _, i, _ => i + 1
def went (c : List Ins) (v : Int) : Nat → Nat → List Nat × Option Str
  | 0, _ => ([], none)
  | f + 1, i => match c[i]? with
    | none => ([], none)
    | some ins => match ins.met v with
      | some t => ([i], some t)
      | none => (i :: (went c v f (ins.next i v)).1, (went c v f (ins.next i v)).2)
def Tgt (t : Str) : Prop := 0 < t.length ∧ t.length ≤ 6 ∧ ∀ c ∈ t.cps.toList, 97 ≤ c ∧ c ≤ 122
abbrev Val (v : Int) : Prop := 0 ≤ v ∧ v ≤ 999999999
def Ins.Good (i n : Nat) : Ins → Prop
  | .less lo to => Val lo ∧ i + 1 ≤ to ∧ to + 1 ≤ n
  | .within lo hi t => Val lo ∧ Val hi ∧ lo ≤ hi ∧ Tgt t ∧ i + 1 < n
  | .table lo ts => Val lo ∧ (0 < ts.length ∧ ts.length ≤ 64) ∧ (∀ o ∈ ts, ∀ t, o = some t → Tgt t) ∧ lo + ts.length - 1 ≤ 999999999 ∧ i + 1 < n
  | .bits lo m t => Val lo ∧ (1 ≤ m ∧ m ≤ 18446744073709551615) ∧ m / 2 ^ (if 999999999 + 1 - lo < 64 then 999999999 + 1 - lo else 64).toNat = 0 ∧ Tgt t ∧ i + 1 < n
  | .fin t => Tgt t ∧ i < n
structure GoodC (c : List Ins) : Prop where
  pos : 0 < c.length
  le : c.length ≤ 120
  it : ∀ (i : Nat) (ins : Ins), c[i]? = some ins → ins.Good i c.length
theorem GoodC.next_lt {c : List Ins} (g : GoodC c) {i : Nat} {ins : Ins} {v : Int} (h : c[i]? = some ins) (hv : 0 ≤ v) (hm : ins.met v = none) : i < ins.next i v ∧ ins.next i v < c.length := by
  have k := g.it i ins h
  cases ins with
  | less lo to =>
    simp only [Ins.Good] at k
    simp only [Ins.next]
    have hi := (List.getElem?_eq_some_iff.mp h).1
    split <;> omega
  | within lo hi t => simp only [Ins.Good] at k; simp only [Ins.next]; omega
  | table lo ts => simp only [Ins.Good] at k; simp only [Ins.next]; omega
  | bits lo m t => simp only [Ins.Good] at k; simp only [Ins.next]; omega
  | fin t =>
    simp only [Ins.met] at hm
    rw [if_pos hv] at hm
    cases hm
theorem went_some {c : List Ins} (g : GoodC c) {v : Int} (hv : 0 ≤ v) : ∀ (f i : Nat), i < c.length → c.length ≤ f + i → ∃ t, (went c v f i).2 = some t
  | 0, i, h, h2 => by omega
  | f + 1, i, h, h2 => by
    unfold went
    rw [List.getElem?_eq_getElem h]
    simp only
    cases e : (c[i]).met v with
    | some t => exact ⟨t, rfl⟩
    | none =>
      simp only
      obtain ⟨k1, k2⟩ := g.next_lt (List.getElem?_eq_getElem h) hv e
      exact went_some g hv f _ k2 (by omega)
theorem went_fuel {c : List Ins} (g : GoodC c) {v : Int} (hv : 0 ≤ v) : ∀ (f f' i : Nat), i < c.length → c.length ≤ f + i → c.length ≤ f' + i → went c v f i = went c v f' i
  | 0, _, i, h, h2, _ => by omega
  | _, 0, i, h, _, h2 => by omega
  | f + 1, f' + 1, i, h, h2, h3 => by
    unfold went
    rw [List.getElem?_eq_getElem h]
    simp only
    cases e : (c[i]).met v with
    | some t => rfl
    | none =>
      simp only
      obtain ⟨k1, k2⟩ := g.next_lt (List.getElem?_eq_getElem h) hv e
      rw [went_fuel g hv f f' _ k2 (by omega) (by omega)]
/-- the walk from an index on, with fuel enough -/
def wentI (c : List Ins) (v : Int) (i : Nat) : List Nat × Option Str := went c v (c.length - i) i
theorem wentI_end {c : List Ins} {v : Int} {i : Nat} {ins : Ins} {t : Str} (h : c[i]? = some ins) (hm : ins.met v = some t) : wentI c v i = ([i], some t) := by
  have hi := (List.getElem?_eq_some_iff.mp h).1
  unfold wentI
  obtain ⟨f, e⟩ : ∃ f, c.length - i = f + 1 := ⟨c.length - i - 1, by omega⟩
  rw [e]
  unfold went
  rw [h]
  simp only [hm]
theorem wentI_next {c : List Ins} (g : GoodC c) {v : Int} (hv : 0 ≤ v) {i : Nat} {ins : Ins} (h : c[i]? = some ins) (hm : ins.met v = none) : wentI c v i = (i :: (wentI c v (ins.next i v)).1, (wentI c v (ins.next i v)).2) := by
  have hi := (List.getElem?_eq_some_iff.mp h).1
  obtain ⟨k1, k2⟩ := g.next_lt h hv hm
  unfold wentI
  obtain ⟨f, e⟩ : ∃ f, c.length - i = f + 1 := ⟨c.length - i - 1, by omega⟩
  rw [e]
  rw [show went c v (f + 1) i = (i :: (went c v f (ins.next i v)).1, (went c v f (ins.next i v)).2) from by
    conv => lhs; unfold went
    rw [h]
    simp only [hm]]
  rw [went_fuel g hv f (c.length - ins.next i v) _ k2 (by omega) (by omega)]
theorem wentI_some {c : List Ins} (g : GoodC c) {v : Int} (hv : 0 ≤ v) {i : Nat} (hi : i < c.length) : ∃ t, (wentI c v i).2 = some t := went_some g hv _ i hi (by omega)
theorem went_mem {c : List Ins} (g : GoodC c) {v : Int} (hv : 0 ≤ v) : ∀ (f i : Nat), ∀ k ∈ (went c v f i).1, k < c.length
  | 0, i, k, hk => by simp [went] at hk
  | f + 1, i, k, hk => by
    unfold went at hk
    split at hk
    · simp at hk
    · rename_i ins h
      have hi := (List.getElem?_eq_some_iff.mp h).1
      split at hk
      · simp at hk; omega
      · simp only [List.mem_cons] at hk
        rcases hk with rfl | hk
        · exact hi
        · exact went_mem g hv f _ k hk
theorem wentI_mem {c : List Ins} (g : GoodC c) {v : Int} (hv : 0 ≤ v) {i k : Nat} (hk : k ∈ (wentI c v i).1) : k < c.length := went_mem g hv _ i k hk
theorem went_len {c : List Ins} {v : Int} : ∀ (f i : Nat), (went c v f i).1.length ≤ f
  | 0, i => by simp [went]
  | f + 1, i => by
    unfold went
    split
    · simp
    · split
      · simp
      · simp only [List.length_cons]
        exact Nat.succ_le_succ (went_len f _)
theorem wentI_len {c : List Ins} {v : Int} {i : Nat} : (wentI c v i).1.length ≤ c.length := Nat.le_trans (went_len _ _) (Nat.sub_le _ _)
theorem met_tgt {ins : Ins} {i n : Nat} {v : Int} {t : Str} (g : ins.Good i n) (h : ins.met v = some t) : Tgt t := by
  cases ins with
  | less lo to => cases h
  | within lo hi u =>
    simp only [Ins.met] at h
    split at h
    · cases h; exact g.2.2.2.1
    · cases h
  | table lo ts =>
    simp only [Ins.met] at h
    split at h
    · cases e : ts[(v - lo).toNat]? with
      | none => rw [e] at h; cases h
      | some o =>
        rw [e] at h
        cases o with
        | none => cases h
        | some u =>
          cases h
          exact g.2.2.1 _ (List.mem_of_getElem? e) _ rfl
    · cases h
  | bits lo m u =>
    simp only [Ins.met] at h
    split at h
    · cases h; exact g.2.2.2.1
    · cases h
  | fin u =>
    simp only [Ins.met] at h
    split at h
    · cases h; exact g.1
    · cases h
theorem went_tgt {c : List Ins} (g : GoodC c) {v : Int} {t : Str} : ∀ (f i : Nat), (went c v f i).2 = some t → Tgt t
  | 0, i, h => by simp [went] at h
  | f + 1, i, h => by
    unfold went at h
    cases e : c[i]? with
    | none => rw [e] at h; cases h
    | some ins =>
      rw [e] at h
      simp only at h
      cases em : ins.met v with
      | some u =>
        rw [em] at h
        cases h
        exact met_tgt (g.it i ins e) em
      | none =>
        rw [em] at h
        exact went_tgt g f _ h
theorem wentI_tgt {c : List Ins} (g : GoodC c) {v : Int} {i : Nat} {t : Str} (h : (wentI c v i).2 = some t) : Tgt t := went_tgt g _ _ h
/-! what can be shown -/
theorem tgt_low {t : Str} (h : Tgt t) : ∀ c ∈ t.cps.toList, c < 16 ^ 8 := fun c hc => by
  have := (h.2.2 c hc).2
  have e : (16 : Nat) ^ 8 = 4294967296 := by decide
  omega
theorem shn_tgt {t : Str} (h : Tgt t) : Shn 0 6 (.str t) := shn_str (tgt_low h) h.2.1
theorem shn_opt {o : Option Str} (h : ∀ t, o = some t → Tgt t) : Shn 0 6 (optD o) := by
  cases o with
  | none => exact shn_non.mono (by omega) (by omega)
  | some t => exact shn_tgt (h t rfl)
theorem shn_val {v : Int} (h : Val v) : Shn 0 100 (.int v) := shn_int ⟨h.1, by have := h.2; omega⟩
theorem shn_nat {n : Nat} (h : n ≤ 1000000000) : Shn 0 100 (.int (n : Nat)) := shn_int ⟨by omega, by omega⟩
theorem shn_word (ins : Ins) : Shn 0 6 (.str ins.word) := by
  cases ins <;> (simp only [Ins.word]; exact shn_str (by decide +kernel) (by decide +kernel))
theorem shn_seq {g : Bool} {k n m : Nat} {ds : List D} (h : ∀ d ∈ ds, Shn k n d) (hl : ds.length ≤ m) : Shn (k + 1) ((n + 1) * m) (seqD g ds) := by
  cases g
  · exact shn_lst h hl
  · exact shn_tup h hl
theorem shn_enc {g : Bool} {ins : Ins} {i n : Nat} (h : ins.Good i n) (hn : n ≤ 1000000) : Shn 2 2000 (ins.enc g) := by
  have hw := shn_word ins
  have key : ∀ ds : List D, ds.length ≤ 3 → (∀ d ∈ ds, Shn 1 450 d) → Shn 2 2000 (.tup (.str ins.word :: ds)) := by
    intro ds hl hd
    have := shn_tup (k := 1) (n := 450) (m := 4) (ds := .str ins.word :: ds) (fun d hm => by
      rcases List.mem_cons.mp hm with rfl | hm
      · exact hw.mono (by omega) (by omega)
      · exact hd d hm) (by simp; omega)
    exact this.mono (by omega) (by omega)
  unfold Ins.enc
  cases ins with
  | less lo to =>
    refine key _ (by simp [Ins.parts]) ?_
    simp only [Ins.parts, List.mem_cons, List.not_mem_nil, or_false]
    rintro d (rfl | rfl)
    · exact (shn_val h.1).mono (by omega) (by omega)
    · exact (shn_nat (by have := h.2.2; omega)).mono (by omega) (by omega)
  | within lo hi t =>
    refine key _ (by simp [Ins.parts]) ?_
    simp only [Ins.parts, List.mem_cons, List.not_mem_nil, or_false]
    rintro d (rfl | rfl | rfl)
    · exact (shn_val h.1).mono (by omega) (by omega)
    · exact (shn_val h.2.1).mono (by omega) (by omega)
    · exact (shn_tgt h.2.2.2.1).mono (by omega) (by omega)
  | table lo ts =>
    refine key _ (by simp [Ins.parts]) ?_
    simp only [Ins.parts, List.mem_cons, List.not_mem_nil, or_false]
    rintro d (rfl | rfl)
    · exact (shn_val h.1).mono (by omega) (by omega)
    · refine (shn_seq (k := 0) (n := 6) (m := 64) (fun d hd => ?_) (by simp; exact h.2.1.2)).mono (by omega) (by omega)
      obtain ⟨o, ho, rfl⟩ := List.mem_map.mp hd
      exact shn_opt (h.2.2.1 o ho)
  | bits lo m t =>
    refine key _ (by simp [Ins.parts]) ?_
    simp only [Ins.parts, List.mem_cons, List.not_mem_nil, or_false]
    rintro d (rfl | rfl | rfl)
    · exact (shn_val h.1).mono (by omega) (by omega)
    · exact (shn_int ⟨by have := h.2.1.1; omega, by have := h.2.1.2; omega⟩).mono (by omega) (by omega)
    · exact (shn_tgt h.2.2.2.1).mono (by omega) (by omega)
  | fin t =>
    refine key _ (by simp [Ins.parts]) ?_
    simp only [Ins.parts, List.mem_cons, List.not_mem_nil, or_false]
    rintro d rfl
    exact (shn_tgt h.1).mono (by omega) (by omega)
theorem shn_code {g : Bool} {c : List Ins} (h : GoodC c) : Shn 3 250000 (codeD g c) := by
  have := shn_seq (g := g) (k := 2) (n := 2000) (m := 120) (ds := c.map (Ins.enc g)) (fun d hd => by
    obtain ⟨ins, hi, rfl⟩ := List.mem_map.mp hd
    obtain ⟨i, hi⟩ := List.getElem?_of_mem hi
    exact shn_enc (h.it i ins hi) (by have := h.le; omega)) (by simp; exact h.le)
  exact this.mono (by omega) (by omega)
def natsD (l : List Nat) : List D := l.map fun i => .int (i : Nat)
theorem natsD_snoc {l : List Nat} {i : Nat} : natsD (l ++ [i]) = natsD l ++ [.int (i : Nat)] := by simp [natsD]
theorem natsD_len {l : List Nat} : (natsD l).length = l.length := by simp [natsD]
theorem shn_nats {l : List Nat} {m : Nat} (h : ∀ i ∈ l, i ≤ 1000000000) (hl : l.length ≤ m) : Shn 1 (101 * m) (.lst (natsD l)) := by
  refine shn_lst (k := 0) (n := 100) (fun d hd => ?_) (by rw [natsD_len]; exact hl)
  obtain ⟨i, hi, rfl⟩ := List.mem_map.mp hd
  exact shn_nat (h i hi)
theorem shn_went {c : List Ins} {v : Int} (g : GoodC c) (hv : Val v) : Shn 1 12120 (.lst (natsD (wentI c v 0).1)) ∧ Shn 0 6 (optD (wentI c v 0).2) :=
  ⟨(shn_nats (m := 120) (fun i hi => by have := wentI_mem g hv.1 hi; have := g.le; omega) (Nat.le_trans wentI_len g.le)).mono (by omega) (by omega), shn_opt fun t ht => wentI_tgt g ht⟩
end DL
set_option Elab.async false
set_option linter.all false
set_option maxRecDepth 100000
set_option maxHeartbeats 4000000
/-! PT2: between two breaks nothing changes; traces rise; how often all are carried out. -/
namespace DL
open PySem L2
/-- what an instruction does with a value, as data -/
def effD : Ins → Int → D
  | .less lo _, v => .bl (decide (v < lo))
  | i, v => optD (i.met v)
theorem optD_inj {a b : Option Str} (h : optD a = optD b) : a = b := by
  cases a <;> cases b <;> simp [optD] at h ⊢
  exact h
theorem eff_met {ins : Ins} {v w : Int} (h : effD ins v = effD ins w) : ins.met v = ins.met w := by
  cases ins with
  | less lo to => rfl
  | within lo hi t => exact optD_inj h
  | table lo ts => exact optD_inj h
  | bits lo m t => exact optD_inj h
  | fin t => exact optD_inj h
theorem eff_next {ins : Ins} {v w : Int} (h : effD ins v = effD ins w) (i : Nat) : ins.next i v = ins.next i w := by
  cases ins with
  | less lo to =>
    simp only [effD, D.bl.injEq, decide_eq_decide] at h
    simp only [Ins.next]
    by_cases q : v < lo
    · rw [if_pos q, if_pos (h.mp q)]
    · rw [if_neg q, if_neg (fun z => q (h.mpr z))]
  | within lo hi t => rfl
  | table lo ts => rfl
  | bits lo m t => rfl
  | fin t => rfl
theorem went_congr {c : List Ins} {v w : Int} (h : ∀ ins ∈ c, effD ins v = effD ins w) : ∀ (f i : Nat), went c v f i = went c w f i
  | 0, i => rfl
  | f + 1, i => by
    unfold went
    cases e : c[i]? with
    | none => rfl
    | some ins =>
      have q := h ins (List.mem_of_getElem? e)
      simp only
      rw [eff_met q, eff_next q, went_congr h f]
theorem wentI_congr {c : List Ins} {v w : Int} (h : ∀ ins ∈ c, effD ins v = effD ins w) {i : Nat} : wentI c v i = wentI c w i := went_congr h _ _
/-- at v some instruction begins to do something else -/
def Brk (c : List Ins) (v : Int) : Prop := ∃ ins ∈ c, effD ins v ≠ effD ins (v - 1)
theorem eff_const {c : List Ins} {lo : Int} {ins : Ins} (hi : ins ∈ c) : ∀ (n : Nat), (∀ k : Int, lo < k → k ≤ lo + (n : Nat) → ¬ Brk c k) → effD ins (lo + (n : Nat)) = effD ins lo
  | 0, _ => by simp
  | n + 1, h => by
    have e1 := eff_const hi n fun k h1 h2 => h k h1 (by omega)
    have e2 : effD ins (lo + ((n + 1 : Nat) : Int)) = effD ins (lo + ((n + 1 : Nat) : Int) - 1) := Classical.byContradiction fun hn => h (lo + ((n + 1 : Nat) : Int)) (by omega) (by omega) ⟨ins, hi, hn⟩
    rw [e2, ← e1]
    congr 1
    omega
theorem eff_between {c : List Ins} {lo v : Int} {ins : Ins} (hi : ins ∈ c) (hv : lo ≤ v) (h : ∀ k : Int, lo < k → k ≤ v → ¬ Brk c k) : effD ins v = effD ins lo := by
  have := eff_const hi (v - lo).toNat fun k h1 h2 => h k h1 (by omega)
  rw [← this]
  congr 1
  omega
/-! ### a trace rises -/
theorem went_rise {c : List Ins} (g : GoodC c) {v : Int} (hv : 0 ≤ v) : ∀ (f i : Nat), (went c v f i).1.Pairwise (· < ·) ∧ ∀ k ∈ (went c v f i).1, i ≤ k
  | 0, i => by simp [went]
  | f + 1, i => by
    unfold went
    cases e : c[i]? with
    | none => simp
    | some ins =>
      simp only
      cases em : ins.met v with
      | some t => simp
      | none =>
        simp only
        obtain ⟨k1, k2⟩ := g.next_lt e hv em
        obtain ⟨r1, r2⟩ := went_rise g hv f (ins.next i v)
        refine ⟨List.pairwise_cons.mpr ⟨fun k hk => ?_, r1⟩, fun k hk => ?_⟩
        · have := r2 k hk
          omega
        · rcases List.mem_cons.mp hk with rfl | hk
          · exact Nat.le_refl _
          · have := r2 k hk
            omega
theorem wentI_rise {c : List Ins} (g : GoodC c) {v : Int} (hv : 0 ≤ v) {i : Nat} : (wentI c v i).1.Pairwise (· < ·) := (went_rise g hv _ i).1
theorem wentI_cons {c : List Ins} (g : GoodC c) {v : Int} (hv : 0 ≤ v) {i : Nat} (hi : i < c.length) : ∃ r, (wentI c v i).1 = i :: r := by
  have e := List.getElem?_eq_getElem hi
  cases em : (c[i]).met v with
  | some t => exact ⟨[], by rw [wentI_end e em]⟩
  | none => exact ⟨_, by rw [wentI_next g hv e em]⟩
/-- the last one stops -/
theorem went_last {c : List Ins} (g : GoodC c) {v : Int} (hv : 0 ≤ v) : ∀ (f i : Nat), i < c.length → c.length ≤ f + i → ∃ (k : Nat) (ins : Ins) (t : Str), (went c v f i).1.getLast? = some k ∧ c[k]? = some ins ∧ ins.met v = some t
  | 0, i, h, h2 => by omega
  | f + 1, i, h, h2 => by
    unfold went
    rw [List.getElem?_eq_getElem h]
    simp only
    cases em : (c[i]).met v with
    | some t => exact ⟨i, c[i], t, by simp, List.getElem?_eq_getElem h, em⟩
    | none =>
      simp only
      obtain ⟨k1, k2⟩ := g.next_lt (List.getElem?_eq_getElem h) hv em
      obtain ⟨k, ins, t, q1, q2, q3⟩ := went_last g hv f _ k2 (by omega)
      refine ⟨k, ins, t, ?_, q2, q3⟩
      rw [List.getLast?_cons, q1]
      rfl
theorem wentI_last {c : List Ins} (g : GoodC c) {v : Int} (hv : 0 ≤ v) {i : Nat} (hi : i < c.length) : ∃ (k : Nat) (ins : Ins) (t : Str), (wentI c v i).1.getLast? = some k ∧ c[k]? = some ins ∧ ins.met v = some t := went_last g hv _ i hi (by omega)
/-! ### what is behind an end, and no comparison leads to it -/
theorem went_dead {c : List Ins} (g : GoodC c) {v : Int} (hv : 0 ≤ v) {a : Nat} {t : Str} (ha : c[a]? = some (.fin t)) (hn : ∀ ins ∈ c, ∀ lo to, ins = .less lo to → to ≠ a + 1) : ∀ (f i : Nat), i ≠ a + 1 → a + 1 ∉ (went c v f i).1
  | 0, i, _ => by simp [went]
  | f + 1, i, h => by
    unfold went
    cases e : c[i]? with
    | none => simp
    | some ins =>
      simp only
      cases em : ins.met v with
      | some t =>
        simp only [List.mem_singleton]
        exact fun q => h q.symm
      | none =>
        simp only [List.mem_cons, not_or]
        refine ⟨fun q => h q.symm, went_dead g hv ha hn f _ ?_⟩
        intro q
        have key : ins.next i v = i + 1 → False := fun z => by
          have : i = a := by omega
          subst this
          rw [ha] at e
          cases e
          simp only [Ins.met, if_pos hv] at em
          cases em
        cases ins with
        | less lo to =>
          simp only [Ins.next] at q key
          split at q
          · exact hn _ (List.mem_of_getElem? e) lo to rfl q
          · exact key (by rw [if_neg (by assumption)])
        | within lo hi t => exact key rfl
        | table lo ts => exact key rfl
        | bits lo m t => exact key rfl
        | fin t => exact key rfl
/-! ### sums -/
theorem bump_sum {t : Int} : ∀ {xs : List Int} {i : Nat}, i < xs.length → (bump t xs i).sum = xs.sum + t
  | [], i, h => by simp at h
  | x :: xs, 0, _ => by
    unfold bump
    simp
    omega
  | x :: xs, i + 1, h => by
    have q := bump_sum (t := t) (xs := xs) (i := i) (by simpa using h)
    unfold bump at q ⊢
    simp only [List.getD_cons_succ, List.set_cons_succ, List.sum_cons]
    omega
theorem bumps_sum {t : Int} : ∀ {is : List Nat} {xs : List Int}, (∀ i ∈ is, i < xs.length) → (bumps t xs is).sum = xs.sum + t * (is.length : Nat)
  | [], xs, _ => by simp [bumps]
  | i :: is, xs, h => by
    have q := bumps_sum (t := t) (is := is) (xs := bump t xs i) fun k hk => by
      rw [bump_len]
      exact h k (by simp [hk])
    show (bumps t (bump t xs i) is).sum = _
    rw [q, bump_sum (h i (by simp)), List.length_cons, Int.natCast_succ, Int.mul_add]
    omega
theorem bump_get {t : Int} {xs : List Int} {i k : Nat} : (bump t xs i).getD k 0 = if i = k ∧ k < xs.length then xs.getD k 0 + t else xs.getD k 0 := by
  unfold bump
  simp only [List.getD_eq_getElem?_getD, List.getElem?_set]
  by_cases h : i = k
  · subst h
    by_cases h2 : i < xs.length
    · simp [h2]
    · simp [h2]
  · simp [h]
theorem bumps_get_out {t : Int} {k : Nat} : ∀ {is : List Nat} {xs : List Int}, k ∉ is → (bumps t xs is).getD k 0 = xs.getD k 0
  | [], xs, _ => rfl
  | i :: is, xs, h => by
    rw [List.mem_cons, not_or] at h
    show (bumps t (bump t xs i) is).getD k 0 = _
    rw [bumps_get_out h.2, bump_get, if_neg (fun q => h.1 q.1.symm)]
theorem bumps_get_in {t : Int} {k : Nat} : ∀ {is : List Nat} {xs : List Int}, is.Pairwise (· < ·) → k ∈ is → k < xs.length → (bumps t xs is).getD k 0 = xs.getD k 0 + t
  | [], xs, _, h, _ => by simp at h
  | i :: is, xs, r, h, hk => by
    obtain ⟨r1, r2⟩ := List.pairwise_cons.mp r
    show (bumps t (bump t xs i) is).getD k 0 = _
    rcases List.mem_cons.mp h with rfl | h
    · rw [bumps_get_out (fun q => by have := r1 k q; omega), bump_get, if_pos ⟨rfl, hk⟩]
    · have hne : i ≠ k := fun q => by have := r1 k h; omega
      rw [bumps_get_in r2 h (by rw [bump_len]; exact hk), bump_get, if_neg (fun q => hne q.1)]
def CntP (p : Int × Int) : Prop := Val p.1 ∧ 0 ≤ p.2 ∧ p.2 ≤ 999
def tallyFrom (c : List Ins) (xs : List Int) (kvs : List (Int × Int)) : List Int := kvs.foldl (fun xs p => bumps p.2 xs (wentI c p.1 0).1) xs
def tally (c : List Ins) (kvs : List (Int × Int)) : List Int := tallyFrom c (List.replicate c.length 0) kvs
theorem tally_snoc {c : List Ins} {kvs : List (Int × Int)} {p : Int × Int} : tally c (kvs ++ [p]) = bumps p.2 (tally c kvs) (wentI c p.1 0).1 := by
  unfold tally tallyFrom
  rw [List.foldl_append]
  rfl
theorem tally_bdF {c : List Ins} (g : GoodC c) : ∀ (kvs : List (Int × Int)) (xs : List Int) (B : Int), (∀ p ∈ kvs, CntP p) → 0 ≤ B → Bd c.length B xs → Bd c.length (B + 119880 * (kvs.length : Nat)) (tallyFrom c xs kvs)
  | [], xs, B, _, hB, h => by simpa [tallyFrom] using h
  | p :: kvs, xs, B, hp, hB, h => by
    obtain ⟨_, h2, h3⟩ := hp p (by simp)
    have h1 := Bd.bumps (T := 999) ⟨h2, h3⟩ (is := (wentI c p.1 0).1) h hB
    have hl : (wentI c p.1 0).1.length ≤ 120 := Nat.le_trans wentI_len g.le
    have h4 := tally_bdF g kvs _ (B + 119880) (fun q hq => hp q (by simp [hq])) (by omega) (h1.mono (by omega))
    have e : B + 119880 + 119880 * (kvs.length : Nat) = B + 119880 * ((p :: kvs).length : Nat) := by
      rw [List.length_cons, Int.natCast_succ, Int.mul_add]
      omega
    rw [← e]
    exact h4
theorem tally_bd {c : List Ins} (g : GoodC c) {kvs : List (Int × Int)} (hp : ∀ p ∈ kvs, CntP p) : Bd c.length (119880 * (kvs.length : Nat)) (tally c kvs) := by
  have := tally_bdF g kvs _ 0 hp (Int.le_refl _) bd_zero
  rw [Int.zero_add] at this
  exact this
theorem map_bump {t : Int} {xs : List Int} {i : Nat} {x : Int} (h : xs[i]? = some x) : (xs.map D.int).set i (.int (x + t)) = (bump t xs i).map D.int := by
  unfold bump
  rw [List.map_set, List.getD_eq_getElem?_getD, h]
  rfl
def wlen (c : List Ins) (v : Int) : Int := ((wentI c v 0).1.length : Nat)
theorem tallyFrom_sum {c : List Ins} (g : GoodC c) : ∀ {kvs : List (Int × Int)} {xs : List Int}, (∀ p ∈ kvs, CntP p) → xs.length = c.length → (tallyFrom c xs kvs).sum = xs.sum + (kvs.map fun p => p.2 * wlen c p.1).sum ∧ (tallyFrom c xs kvs).length = c.length
  | [], xs, _, h => by simp [tallyFrom, h]
  | p :: kvs, xs, hp, h => by
    have hv := (hp p (by simp)).1.1
    have q := tallyFrom_sum g (kvs := kvs) (xs := bumps p.2 xs (wentI c p.1 0).1) (fun p hq => hp p (by simp [hq])) (by rw [bumps_len, h])
    show (tallyFrom c (bumps p.2 xs (wentI c p.1 0).1) kvs).sum = _ ∧ (tallyFrom c (bumps p.2 xs (wentI c p.1 0).1) kvs).length = _
    refine ⟨?_, q.2⟩
    rw [q.1, bumps_sum (fun i hi => by rw [h]; exact wentI_mem g hv hi), List.map_cons, List.sum_cons]
    unfold wlen
    omega
theorem tally_sum {c : List Ins} (g : GoodC c) {kvs : List (Int × Int)} (h : ∀ p ∈ kvs, CntP p) : (tally c kvs).sum = (kvs.map fun p => p.2 * wlen c p.1).sum := by
  unfold tally
  rw [(tallyFrom_sum g h (by simp)).1]
  have : (List.replicate c.length (0 : Int)).sum = 0 := by
    induction c.length with
    | zero => rfl
    | succ n ih => rw [List.replicate_succ, List.sum_cons, ih]; rfl
  omega
theorem tally_len {c : List Ins} (g : GoodC c) {kvs : List (Int × Int)} (h : ∀ p ∈ kvs, CntP p) : (tally c kvs).length = c.length := (tallyFrom_sum g h (by simp)).2
theorem tallyFrom_zero {c : List Ins} (g : GoodC c) : ∀ {kvs : List (Int × Int)} {xs : List Int}, (∀ p ∈ kvs, CntP p) → xs.length = c.length → (tallyFrom c xs kvs).getD 0 0 = xs.getD 0 0 + (kvs.map (·.2)).sum
  | [], xs, _, h => by simp [tallyFrom]
  | p :: kvs, xs, hp, h => by
    have hv := (hp p (by simp)).1.1
    have q := tallyFrom_zero g (kvs := kvs) (xs := bumps p.2 xs (wentI c p.1 0).1) (fun p hq => hp p (by simp [hq])) (by rw [bumps_len, h])
    show (tallyFrom c (bumps p.2 xs (wentI c p.1 0).1) kvs).getD 0 0 = _
    obtain ⟨r, hr⟩ := wentI_cons g hv (i := 0) g.pos
    rw [q, bumps_get_in (wentI_rise g hv) (by rw [hr]; simp) (by rw [h]; exact g.pos), List.map_cons, List.sum_cons]
    omega
theorem tally_zero {c : List Ins} (g : GoodC c) {kvs : List (Int × Int)} (h : ∀ p ∈ kvs, CntP p) : (tally c kvs).getD 0 0 = (kvs.map (·.2)).sum := by
  unfold tally
  rw [tallyFrom_zero g h (by simp)]
  have : (List.replicate c.length (0 : Int)).getD 0 0 = 0 := by
    rw [List.getD_eq_getElem?_getD, List.getElem?_replicate]
    split <;> rfl
  omega
theorem tallyFrom_out {c : List Ins} {k : Nat} : ∀ {kvs : List (Int × Int)} {xs : List Int}, (∀ p ∈ kvs, k ∉ (wentI c p.1 0).1) → (tallyFrom c xs kvs).getD k 0 = xs.getD k 0
  | [], xs, _ => rfl
  | p :: kvs, xs, hp => by
    show (tallyFrom c (bumps p.2 xs (wentI c p.1 0).1) kvs).getD k 0 = _
    rw [tallyFrom_out fun p hq => hp p (by simp [hq]), bumps_get_out (hp p (by simp))]
theorem tally_out {c : List Ins} {k : Nat} {kvs : List (Int × Int)} (h : ∀ p ∈ kvs, k ∉ (wentI c p.1 0).1) : (tally c kvs).getD k 0 = 0 := by
  unfold tally
  rw [tallyFrom_out h, List.getD_eq_getElem?_getD, List.getElem?_replicate]
  split <;> rfl
theorem natsD_ints {l : List Nat} : natsD l = (l.map fun i => ((i : Nat) : Int)).map D.int := by
  unfold natsD
  rw [List.map_map]
  rfl
theorem ssort_self {xs : List Int} (h : xs.Pairwise (· < ·)) : ssort xs = xs := lt_ext (ssort_lt _) h fun z => ssort_mem
theorem rise_cast {l : List Nat} (h : l.Pairwise (· < ·)) : (l.map fun i => ((i : Nat) : Int)).Pairwise (· < ·) := List.pairwise_map.mpr (h.imp fun q => by omega)
end DL
set_option Elab.async false
set_option linter.all false
set_option maxRecDepth 100000
set_option maxHeartbeats 4000000
/-! PT3: the breaks of a code, in plain Lean. -/
namespace DL
open PySem L2
/-- where a row of k places begins to do something else -/
def rowB (lo : Int) (k : Nat) (f : Int → Option Str) : List Int := ((List.range (k + 1)).filter fun s => decide (f (lo + (s : Nat) - 1) ≠ f (lo + (s : Nat)))).map fun s => lo + (s : Nat)
def ownB : Ins → List Int
  | .less lo _ => [lo]
  | .within lo hi _ => [lo, hi + 1]
  | .table lo ts => rowB lo ts.length (Ins.table lo ts).met
  | .bits lo m t => rowB lo 64 (Ins.bits lo m t).met
  | .fin _ => []
theorem rowB_mem {lo : Int} {k : Nat} {f : Int → Option Str} {v : Int} : v ∈ rowB lo k f ↔ (lo ≤ v ∧ v ≤ lo + k) ∧ f (v - 1) ≠ f v := by
  unfold rowB
  simp only [List.mem_map, List.mem_filter, List.mem_range, decide_eq_true_eq]
  constructor
  · rintro ⟨s, ⟨h1, h2⟩, rfl⟩
    exact ⟨⟨by omega, by omega⟩, h2⟩
  · rintro ⟨⟨h1, h2⟩, h3⟩
    have e : lo + (((v - lo).toNat : Nat) : Int) = v := by omega
    exact ⟨(v - lo).toNat, ⟨by omega, by rw [e]; exact h3⟩, e⟩
theorem rowB_len {lo : Int} {k : Nat} {f : Int → Option Str} : (rowB lo k f).length ≤ k + 1 := by
  unfold rowB
  rw [List.length_map]
  refine Nat.le_trans (List.length_filter_le _ _) ?_
  simp
theorem table_out {lo v : Int} {ts : List (Option Str)} (h : v < lo ∨ lo + (ts.length : Nat) ≤ v) : (Ins.table lo ts).met v = none := by
  simp only [Ins.met]
  rw [if_neg (by omega)]
theorem bits_out {lo m v : Int} {t : Str} (h : v < lo ∨ lo + 64 ≤ v) : (Ins.bits lo m t).met v = none := by
  simp only [Ins.met]
  rw [if_neg (by omega)]
theorem optD_eq {a b : Option Str} : optD a = optD b ↔ a = b := ⟨optD_inj, fun h => by rw [h]⟩
/-- a break of its own is one of the values told, within the values -/
theorem ownB_mem {ins : Ins} {i n : Nat} (g : ins.Good i n) {v : Int} (hv : 0 < v) : v ∈ ownB ins ↔ effD ins v ≠ effD ins (v - 1) := by
  cases ins with
  | less lo to =>
    simp only [ownB, effD, List.mem_singleton, ne_eq, D.bl.injEq, decide_eq_decide]
    omega
  | within lo hi t =>
    have h3 := g.2.2.1
    simp only [ownB, effD, Ins.met, List.mem_cons, List.not_mem_nil, or_false, ne_eq, optD_eq]
    by_cases h1 : lo ≤ v ∧ v ≤ hi <;> by_cases h2 : lo ≤ v - 1 ∧ v - 1 ≤ hi <;> simp only [h1, h2, if_true, if_false] <;> simp <;> omega
  | table lo ts =>
    simp only [ownB, effD, rowB_mem, ne_eq, optD_eq]
    refine ⟨fun h e => h.2 e.symm, fun h => ⟨Classical.byContradiction fun hn => h ?_, fun e => h e.symm⟩⟩
    rw [table_out (by omega), table_out (by omega)]
  | bits lo m t =>
    simp only [ownB, effD, rowB_mem, ne_eq, optD_eq]
    refine ⟨fun h e => h.2 e.symm, fun h => ⟨Classical.byContradiction fun hn => h ?_, fun e => h e.symm⟩⟩
    rw [bits_out (by omega), bits_out (by omega)]
  | fin t =>
    simp only [ownB, effD, Ins.met, List.not_mem_nil, ne_eq, false_iff, Decidable.not_not]
    rw [if_pos (by omega), if_pos (by omega)]
    simp
theorem ownB_pos {ins : Ins} {i n : Nat} (g : ins.Good i n) {v : Int} (h : v ∈ ownB ins) : 0 ≤ v := by
  cases ins with
  | less lo to =>
    have := g.1.1
    simp only [ownB, List.mem_singleton] at h
    omega
  | within lo hi t =>
    have := g.1.1
    have := g.2.1.1
    simp only [ownB, List.mem_cons, List.not_mem_nil, or_false] at h
    omega
  | table lo ts =>
    have := g.1.1
    have := (rowB_mem.mp h).1.1
    omega
  | bits lo m t =>
    have := g.1.1
    have := (rowB_mem.mp h).1.1
    omega
  | fin t => simp [ownB] at h
theorem ownB_len {ins : Ins} {i n : Nat} (g : ins.Good i n) : (ownB ins).length ≤ 65 := by
  cases ins with
  | less lo to => simp [ownB]
  | within lo hi t => simp [ownB]
  | table lo ts =>
    have := g.2.1.2
    have := rowB_len (lo := lo) (k := ts.length) (f := (Ins.table lo ts).met)
    simp only [ownB]
    omega
  | bits lo m t =>
    have := rowB_len (lo := lo) (k := 64) (f := (Ins.bits lo m t).met)
    simp only [ownB]
    omega
  | fin t => simp [ownB]
def inVals (v : Int) : Bool := decide (v ≤ 999999999)
/-- what is gathered of a code -/
def gath (c : List Ins) : List Int := 0 :: c.flatMap fun ins => (ownB ins).filter inVals
def breaks (c : List Ins) : List Int := ssort (gath c)
theorem gath_snoc {c : List Ins} {ins : Ins} : gath (c ++ [ins]) = gath c ++ (ownB ins).filter inVals := by
  simp [gath]
theorem gath_len {c : List Ins} (h : ∀ ins ∈ c, (ownB ins).length ≤ 65) : (gath c).length ≤ 1 + 65 * c.length := by
  unfold gath
  induction c with
  | nil => simp
  | cons x c ih =>
    have h1 := ih fun ins hi => h ins (by simp [hi])
    have h2 := h x (by simp)
    have h3 := List.length_filter_le inVals (ownB x)
    simp only [List.flatMap_cons, List.length_cons, List.length_append] at h1 ⊢
    omega
theorem gath_val {c : List Ins} (g : GoodC c) {v : Int} (h : v ∈ gath c) : Val v := by
  unfold gath at h
  rcases List.mem_cons.mp h with rfl | h
  · exact ⟨by omega, by omega⟩
  · obtain ⟨ins, hi, h⟩ := List.mem_flatMap.mp h
    obtain ⟨h1, h2⟩ := List.mem_filter.mp h
    obtain ⟨i, hg⟩ := List.getElem?_of_mem hi
    have hp := ownB_pos (g.it i ins hg) h1
    simp only [inVals, decide_eq_true_eq] at h2
    exact ⟨hp, h2⟩
theorem breaks_mem {c : List Ins} (g : GoodC c) {v : Int} : v ∈ breaks c ↔ v = 0 ∨ (0 < v ∧ v ≤ 999999999 ∧ Brk c v) := by
  unfold breaks gath
  rw [ssort_mem, List.mem_cons]
  constructor
  · rintro (h | h)
    · exact .inl h
    · obtain ⟨ins, hi, h⟩ := List.mem_flatMap.mp h
      obtain ⟨h1, h2⟩ := List.mem_filter.mp h
      obtain ⟨i, hg⟩ := List.getElem?_of_mem hi
      have gd := g.it i ins hg
      have hp := ownB_pos gd h1
      simp only [inVals, decide_eq_true_eq] at h2
      by_cases h0 : v = 0
      · exact .inl h0
      · exact .inr ⟨by omega, h2, ins, hi, (ownB_mem gd (by omega)).mp h1⟩
  · rintro (h | ⟨h1, h2, ins, hi, h3⟩)
    · exact .inl h
    · obtain ⟨i, hg⟩ := List.getElem?_of_mem hi
      exact .inr (List.mem_flatMap.mpr ⟨ins, hi, List.mem_filter.mpr ⟨(ownB_mem (g.it i ins hg) h1).mpr h3, by simp [inVals, h2]⟩⟩)
theorem breaks_lt {c : List Ins} : (breaks c).Pairwise (· < ·) := ssort_lt _
theorem breaks_val {c : List Ins} (g : GoodC c) {v : Int} (h : v ∈ breaks c) : Val v := by
  rcases (breaks_mem g).mp h with rfl | ⟨h1, h2, _⟩
  · exact ⟨by omega, by omega⟩
  · exact ⟨by omega, h2⟩
theorem breaks_len {c : List Ins} (g : GoodC c) : (breaks c).length ≤ 1 + 65 * c.length := by
  refine Nat.le_trans ssort_len (gath_len fun ins hi => ?_)
  obtain ⟨i, hg⟩ := List.getElem?_of_mem hi
  exact ownB_len (g.it i ins hg)
theorem breaks_zero {c : List Ins} (g : GoodC c) : ∃ r, breaks c = 0 :: r := by
  have h0 : (0 : Int) ∈ breaks c := (breaks_mem g).mpr (.inl rfl)
  cases e : breaks c with
  | nil => rw [e] at h0; simp at h0
  | cons x r =>
    rw [e] at h0
    have hl := breaks_lt (c := c)
    rw [e] at hl
    rcases List.mem_cons.mp h0 with h | h
    · exact ⟨r, by rw [h]⟩
    · have := (List.pairwise_cons.mp hl).1 0 h
      have := (breaks_val g (v := x) (by rw [e]; simp)).1
      omega
/-! ### the law's own look -/
def nearB : Ins → List Int
  | .less lo _ => [lo]
  | .within lo hi _ => [lo, hi + 1]
  | .table lo ts => (List.range (ts.length + 1)).map fun k => lo + ((k : Nat) : Int)
  | .bits lo _ _ => (List.range 65).map fun k => lo + ((k : Nat) : Int)
  | .fin _ => []
theorem near_own {ins : Ins} {v : Int} (h : v ∈ ownB ins) : v ∈ nearB ins := by
  have row : ∀ (lo : Int) (k : Nat) (f : Int → Option Str), v ∈ rowB lo k f → v ∈ (List.range (k + 1)).map fun k => lo + ((k : Nat) : Int) := fun lo k f h => by
    have := (rowB_mem.mp h).1
    exact List.mem_map.mpr ⟨(v - lo).toNat, List.mem_range.mpr (by omega), by omega⟩
  cases ins with
  | less lo to => exact h
  | within lo hi t => exact h
  | table lo ts => exact row _ _ _ h
  | bits lo m t => exact row _ 64 _ h
  | fin t => exact h
theorem nearB_len {ins : Ins} {i n : Nat} (g : ins.Good i n) : (nearB ins).length ≤ 65 := by
  cases ins with
  | less lo to => simp [nearB]
  | within lo hi t => simp [nearB]
  | table lo ts => have := g.2.1.2; simp only [nearB, List.length_map, List.length_range]; omega
  | bits lo m t => simp [nearB]
  | fin t => simp [nearB]
def effNe : Ins → Int → Int → Bool
  | .less lo _, v, w => !decide (decide (v < lo) = decide (w < lo))
  | i, v, w => !decide (i.met v = i.met w)
theorem effNe_iff {ins : Ins} {v w : Int} : effNe ins v w = true ↔ effD ins v ≠ effD ins w := by
  cases ins <;> simp [effNe, effD, optD_eq]
def posV (v : Int) : Bool := decide (0 < v) && decide (v ≤ 999999999)
/-- what the law gathers of an instruction -/
def lawB (ins : Ins) : List Int := ((nearB ins).filter posV).filter fun v => effNe ins v (v - 1)
def lawG (c : List Ins) : List Int := 0 :: c.flatMap lawB
theorem lawG_snoc {c : List Ins} {ins : Ins} : lawG (c ++ [ins]) = lawG c ++ lawB ins := by simp [lawG]
theorem lawB_mem {ins : Ins} {i n : Nat} (g : ins.Good i n) {v : Int} : v ∈ lawB ins ↔ (0 < v ∧ v ≤ 999999999) ∧ effD ins v ≠ effD ins (v - 1) := by
  unfold lawB
  rw [List.mem_filter, List.mem_filter, effNe_iff]
  simp only [posV, Bool.and_eq_true, decide_eq_true_eq]
  exact ⟨fun h => ⟨h.1.2, h.2⟩, fun h => ⟨⟨near_own ((ownB_mem g h.1.1).mpr h.2), h.1⟩, h.2⟩⟩
theorem lawG_sort {c : List Ins} (g : GoodC c) : ssort (lawG c) = breaks c := by
  refine lt_ext (ssort_lt _) breaks_lt fun v => ?_
  rw [ssort_mem, breaks_mem g]
  unfold lawG
  rw [List.mem_cons]
  refine or_congr Iff.rfl ?_
  rw [List.mem_flatMap]
  constructor
  · rintro ⟨ins, hi, h⟩
    obtain ⟨i, hg⟩ := List.getElem?_of_mem hi
    obtain ⟨⟨h1, h2⟩, h3⟩ := (lawB_mem (g.it i ins hg)).mp h
    exact ⟨h1, h2, ins, hi, h3⟩
  · rintro ⟨h1, h2, ins, hi, h3⟩
    obtain ⟨i, hg⟩ := List.getElem?_of_mem hi
    exact ⟨ins, hi, (lawB_mem (g.it i ins hg)).mpr ⟨⟨h1, h2⟩, h3⟩⟩
theorem lawG_val {c : List Ins} (g : GoodC c) {v : Int} (h : v ∈ lawG c) : Val v := by
  have : v ∈ breaks c := by rw [← lawG_sort g, ssort_mem]; exact h
  exact breaks_val g this
theorem lawB_len {ins : Ins} {i n : Nat} (g : ins.Good i n) : (lawB ins).length ≤ 65 := by
  have h1 := List.length_filter_le (fun v => effNe ins v (v - 1)) ((nearB ins).filter posV)
  have h2 := List.length_filter_le posV (nearB ins)
  have h3 := nearB_len g
  unfold lawB
  omega
theorem lawG_len {c : List Ins} (h : ∀ ins ∈ c, (lawB ins).length ≤ 65) : (lawG c).length ≤ 1 + 65 * c.length := by
  unfold lawG
  induction c with
  | nil => simp
  | cons x c ih =>
    have h1 := ih fun ins hi => h ins (by simp [hi])
    have h2 := h x (by simp)
    simp only [List.flatMap_cons, List.length_cons, List.length_append] at h1 ⊢
    omega
/-- no break strictly between a row's neighbors -/
theorem lt_gap {xs : List Int} (h : xs.Pairwise (· < ·)) {i : Nat} {a b k : Int} (ha : xs[i]? = some a) (hb : xs[i + 1]? = some b) (h1 : a < k) (h2 : k < b) : k ∉ xs := by
  intro hk
  obtain ⟨j, hj⟩ := List.getElem?_of_mem hk
  obtain ⟨p1, rfl⟩ := List.getElem?_eq_some_iff.mp ha
  obtain ⟨p2, rfl⟩ := List.getElem?_eq_some_iff.mp hb
  obtain ⟨p3, rfl⟩ := List.getElem?_eq_some_iff.mp hj
  have w := List.pairwise_iff_getElem.mp h
  rcases Nat.lt_trichotomy j i with q | q | q
  · have := w j i p3 p1 q; omega
  · subst q; omega
  · rcases Nat.lt_trichotomy j (i + 1) with q' | q' | q'
    · omega
    · subst q'; omega
    · have := w (i + 1) j p2 p3 q'; omega
theorem lt_gap_end {xs : List Int} (h : xs.Pairwise (· < ·)) {i : Nat} {a k : Int} (ha : xs[i]? = some a) (hb : xs.length = i + 1) (h1 : a < k) : k ∉ xs := by
  intro hk
  obtain ⟨j, hj⟩ := List.getElem?_of_mem hk
  obtain ⟨p1, rfl⟩ := List.getElem?_eq_some_iff.mp ha
  obtain ⟨p3, rfl⟩ := List.getElem?_eq_some_iff.mp hj
  have w := List.pairwise_iff_getElem.mp h
  rcases Nat.lt_trichotomy j i with q | q | q
  · have := w j i p3 p1 q; omega
  · subst q; omega
  · omega
/-- the bounds of the parts: the breaks, and behind the last value -/
def bnds (c : List Ins) : List Int := breaks c ++ [1000000000]
theorem part_same {c : List Ins} (g : GoodC c) {i : Nat} {a b : Int} (ha : (bnds c)[i]? = some a) (hb : (bnds c)[i + 1]? = some b) : Val a ∧ a ≤ b - 1 ∧ b - 1 ≤ 999999999 ∧ a ∈ breaks c ∧ ∀ v, a ≤ v → v < b → ∀ ins ∈ c, effD ins v = effD ins a := by
  have hi : i + 1 < (bnds c).length := (List.getElem?_eq_some_iff.mp hb).1
  unfold bnds at ha hb hi
  rw [List.length_append, List.length_singleton] at hi
  have hil : i < (breaks c).length := by omega
  rw [List.getElem?_append_left hil] at ha
  have va := breaks_val g (List.mem_of_getElem? ha)
  have gap : ∀ k, a < k → k < b → k ∉ breaks c ∧ k ≤ 999999999 ∧ b ≤ 1000000000 := by
    intro k h1 h2
    by_cases q : i + 1 < (breaks c).length
    · rw [List.getElem?_append_left q] at hb
      have vb := breaks_val g (List.mem_of_getElem? hb)
      exact ⟨lt_gap breaks_lt ha hb h1 h2, by have := vb.2; omega, by have := vb.2; omega⟩
    · have e : (breaks c).length = i + 1 := by omega
      rw [List.getElem?_append_right (by omega)] at hb
      rw [show i + 1 - (breaks c).length = 0 from by omega] at hb
      have hb' : b = 1000000000 := by simpa using hb.symm
      exact ⟨lt_gap_end breaks_lt ha e h1, by omega, by omega⟩
  have hlt : a < b ∧ b ≤ 1000000000 := by
    by_cases q : i + 1 < (breaks c).length
    · rw [List.getElem?_append_left q] at hb
      have vb := breaks_val g (List.mem_of_getElem? hb)
      obtain ⟨p1, rfl⟩ := List.getElem?_eq_some_iff.mp ha
      obtain ⟨p2, rfl⟩ := List.getElem?_eq_some_iff.mp hb
      exact ⟨List.pairwise_iff_getElem.mp (breaks_lt (c := c)) i (i + 1) p1 p2 (by omega), by have := vb.2; omega⟩
    · rw [List.getElem?_append_right (by omega)] at hb
      rw [show i + 1 - (breaks c).length = 0 from by omega] at hb
      have hb' : b = 1000000000 := by simpa using hb.symm
      have := va.2
      exact ⟨by omega, by omega⟩
  refine ⟨va, by omega, by omega, List.mem_of_getElem? ha, fun v h1 h2 ins hins => eff_between hins h1 fun k k1 k2 hk => ?_⟩
  obtain ⟨q1, q2, _⟩ := gap k k1 (by omega)
  exact q1 ((breaks_mem g).mpr (.inr ⟨by have := va.1; omega, q2, hk⟩))
end DL
set_option Elab.async false
set_option linter.all false
set_option maxRecDepth 100000
set_option maxHeartbeats 4000000
/-! DL33: what can be shown though it is long; rows against []. -/
namespace DL
open PySem L2
/-- shown in short: of depth k, of weight n -/
structure Shs (k n : Nat) (d : D) : Prop where
  ok : ros d = true
  dp : dep d ≤ k
  wt : wS d ≤ n
theorem Shs.mono {k n k' n' : Nat} {d : D} (h : Shs k n d) (h1 : k ≤ k') (h2 : n ≤ n') : Shs k' n' d := ⟨h.ok, Nat.le_trans h.dp h1, Nat.le_trans h.wt h2⟩
theorem Shs.rp {k n : Nat} {d : D} (h : Shs k n d) (h1 : k ≤ 60) (h2 : n ≤ 1048576) : okRp d = true := okRp_ofS h.ok (Nat.le_trans h.dp h1) (Nat.le_trans h.wt h2)
theorem shs_int {i : Int} (h : 0 ≤ i ∧ i ≤ 1000000000) : Shs 0 34 (.int i) := ⟨decide_eq_true ⟨h.1, by have := h.2; omega⟩, Nat.le_refl _, Nat.le_refl _⟩
theorem shs_tgt {t : Str} (h : Tgt t) : Shs 0 6 (.str t) := ⟨(shn_tgt h).ok, (shn_tgt h).dp, (shn_tgt h).wt⟩
theorem shs_opt {o : Option Str} (h : ∀ t, o = some t → Tgt t) : Shs 0 6 (optD o) := by
  cases o with
  | none => exact ⟨rfl, Nat.le_refl _, Nat.zero_le _⟩
  | some t => exact shs_tgt (h t rfl)
theorem shs_l {k n m : Nat} {ds : List D} (h : ∀ d ∈ ds, Shs k n d) (hl : ds.length ≤ m) : Shs (k + 1) ((n + 1) * m) (.lst ds) := by
  refine ⟨rosL_of fun d hd => (h d hd).ok, Nat.succ_le_succ (depL_of fun d hd => (h d hd).dp), ?_⟩
  exact Nat.le_trans (wSL_of fun d hd => (h d hd).wt) (Nat.mul_le_mul_left _ hl)
theorem shs_t {k n m : Nat} {ds : List D} (h : ∀ d ∈ ds, Shs k n d) (hl : ds.length ≤ m) : Shs (k + 1) ((n + 1) * m) (.tup ds) := by
  refine ⟨rosL_of fun d hd => (h d hd).ok, Nat.succ_le_succ (depL_of fun d hd => (h d hd).dp), ?_⟩
  exact Nat.le_trans (wSL_of fun d hd => (h d hd).wt) (Nat.mul_le_mul_left _ hl)
theorem shs_ints {ns : List Int} {m : Nat} (h : ∀ n ∈ ns, 0 ≤ n ∧ n ≤ 1000000000) (hl : ns.length ≤ m) : Shs 1 (35 * m) (.lst (ns.map D.int)) := by
  refine shs_l (k := 0) (n := 34) (fun d hd => ?_) (by rw [List.length_map]; exact hl)
  obtain ⟨n, hn, rfl⟩ := List.mem_map.mp hd
  exact shs_int (h n hn)
theorem breaks_rp {c : List Ins} (g : GoodC c) : okRp (.lst ((breaks c).map D.int)) = true :=
  (shs_ints (m := 7801) (fun n hn => ⟨(breaks_val g hn).1, by have := (breaks_val g hn).2; omega⟩) (by have := breaks_len g; have := g.le; omega)).rp (by decide) (by decide)
/-- a row against the empty one -/
theorem eqD_nil {xs : List D} (h1 : layL xs = true) (d1 : depL xs ≤ 63) : eqD false (.lst xs) (.lst []) = some (.f (.bl xs.isEmpty)) := by
  rw [eqD_L h1 rfl d1 (by simp [depL])]
  cases xs with
  | nil => rfl
  | cons x xs => simp [pydL, PyData.eqvAll]
theorem lay_tgt {t : Str} (h : Tgt t) : lay (.str t) = true := by
  unfold lay
  rw [Array.all_eq_true_iff_forall_mem]
  intro c hc
  have := h.2.2 c (by simpa using hc)
  simp; omega
theorem lay_opt {o : Option Str} (h : ∀ t, o = some t → Tgt t) : lay (optD o) = true := by
  cases o with
  | none => rfl
  | some t => exact lay_tgt (h t rfl)
theorem lay_nats {l : List Nat} : layL (natsD l) = true := by rw [natsD_ints]; exact lay_ints
theorem dep_nats {l : List Nat} : depL (natsD l) ≤ 0 := by rw [natsD_ints]; exact dep_ints
theorem lay_word (ins : Ins) : lay (.str ins.word) = true := by cases ins <;> (simp only [Ins.word]; decide +kernel)
theorem lay_enc {ins : Ins} {i n : Nat} {g : Bool} (h : ins.Good i n) : lay (ins.enc g) = true ∧ dep (ins.enc g) ≤ 2 := by
  have w := lay_word ins
  have w0 : dep (.str ins.word) = 0 := rfl
  cases ins with
  | less lo to => exact ⟨by simp only [Ins.enc, Ins.parts, lay, layL, Bool.and_true]; simpa only [lay] using w, by simp [Ins.enc, Ins.parts, dep, depL]⟩
  | within lo hi t =>
    have lt := lay_tgt h.2.2.2.1
    exact ⟨by simp only [Ins.enc, Ins.parts, layL, Bool.and_true, lay] at *; simp only [w, lt, Bool.and_self], by simp [Ins.enc, Ins.parts, dep, depL]⟩
  | table lo ts =>
    have lt : layL (ts.map optD) = true := layL_of fun d hd => by
      obtain ⟨o, ho, rfl⟩ := List.mem_map.mp hd
      exact lay_opt (h.2.2.1 o ho)
    have dt : depL (ts.map optD) ≤ 0 := depL_of fun d hd => by
      obtain ⟨o, ho, rfl⟩ := List.mem_map.mp hd
      cases o <;> exact Nat.le_refl _
    cases g
    · exact ⟨by simp only [Ins.enc, Ins.parts, seqD, layL, Bool.and_true, lay] at *; simp only [w, lt, Bool.and_self], by simp only [Ins.enc, Ins.parts, seqD, dep, depL]; omega⟩
    · exact ⟨by simp only [Ins.enc, Ins.parts, seqD, layL, Bool.and_true, lay] at *; simp only [w, lt, Bool.and_self], by simp only [Ins.enc, Ins.parts, seqD, dep, depL]; omega⟩
  | bits lo m t =>
    have lt := lay_tgt h.2.2.2.1
    exact ⟨by simp only [Ins.enc, Ins.parts, layL, Bool.and_true, lay] at *; simp only [w, lt, Bool.and_self], by simp [Ins.enc, Ins.parts, dep, depL]⟩
  | fin t =>
    have lt := lay_tgt h.1
    exact ⟨by simp only [Ins.enc, Ins.parts, layL, Bool.and_true, lay] at *; simp only [w, lt, Bool.and_self], by simp [Ins.enc, Ins.parts, dep, depL]⟩
/-- int(a test) -/
theorem i_intB {b : Bool} {P : RV → Prop} (k : ∀ i : Int, 0 ≤ i ∧ i ≤ 1 → P (.f (.int i))) : oP (cInt [.bl b]) P := by
  cases b
  · exact k 0 (by omega)
  · exact k 1 (by omega)
end DL
set_option Elab.async false
set_option linter.all false
set_option maxRecDepth 100000
set_option maxHeartbeats 4000000
/-! DL34: max(xs), min(xs) of ints; tuples that equal themselves. -/
namespace DL
open PySem L2
def mxI : List Int → Int
  | [] => 0
  | [n] => n
  | n :: ns => max n (mxI ns)
def mnI : List Int → Int
  | [] => 0
  | [n] => n
  | n :: ns => min n (mnI ns)
theorem mxI_is : ∀ {ns : List Int}, ns ≠ [] → mxI ns ∈ ns ∧ ∀ y ∈ ns, y ≤ mxI ns
  | [], h => absurd rfl h
  | [n], _ => ⟨by simp [mxI], fun y hy => by simp at hy; simp [mxI, hy]⟩
  | n :: m :: ns, _ => by
    obtain ⟨h1, h2⟩ := mxI_is (ns := m :: ns) (by simp)
    have e : mxI (n :: m :: ns) = max n (mxI (m :: ns)) := rfl
    rw [e]
    refine ⟨?_, fun y hy => ?_⟩
    · rcases Int.le_total n (mxI (m :: ns)) with c | c
      · rw [Int.max_eq_right c]; exact List.mem_cons_of_mem _ h1
      · rw [Int.max_eq_left c]; simp
    · rcases List.mem_cons.mp hy with rfl | hy
      · exact Int.le_max_left _ _
      · exact Int.le_trans (h2 y hy) (Int.le_max_right _ _)
theorem mnI_is : ∀ {ns : List Int}, ns ≠ [] → mnI ns ∈ ns ∧ ∀ y ∈ ns, mnI ns ≤ y
  | [], h => absurd rfl h
  | [n], _ => ⟨by simp [mnI], fun y hy => by simp at hy; simp [mnI, hy]⟩
  | n :: m :: ns, _ => by
    obtain ⟨h1, h2⟩ := mnI_is (ns := m :: ns) (by simp)
    have e : mnI (n :: m :: ns) = min n (mnI (m :: ns)) := rfl
    rw [e]
    refine ⟨?_, fun y hy => ?_⟩
    · rcases Int.le_total n (mnI (m :: ns)) with c | c
      · rw [Int.min_eq_left c]; simp
      · rw [Int.min_eq_right c]; exact List.mem_cons_of_mem _ h1
    · rcases List.mem_cons.mp hy with rfl | hy
      · exact Int.min_le_left _ _
      · exact Int.le_trans (Int.min_le_right _ _) (h2 y hy)
theorem mxI_eq {ns : List Int} {m : Int} (h1 : m ∈ ns) (h2 : ∀ y ∈ ns, y ≤ m) : mxI ns = m := by
  obtain ⟨a1, a2⟩ := mxI_is (ns := ns) (fun z => by rw [z] at h1; simp at h1)
  exact Int.le_antisymm (h2 _ a1) (a2 _ h1)
theorem mnI_eq {ns : List Int} {m : Int} (h1 : m ∈ ns) (h2 : ∀ y ∈ ns, m ≤ y) : mnI ns = m := by
  obtain ⟨a1, a2⟩ := mnI_is (ns := ns) (fun z => by rw [z] at h1; simp at h1)
  exact Int.le_antisymm (a2 _ h1) (h2 _ a1)
section
variable {X : Cx} {W : WX'} {K : PySem.W.Frag} {e : Expr} {fa : Sl → Rs (List NV)} {pos : Pos}
def cMaxL : List D → Option RV
  | [.lst ds] => (intsOf ds).bind fun ns => if 0 < ns.length then some (.f (.int (mxI ns))) else none
  | _ => none
def cMinL : List D → Option RV
  | [.lst ds] => (intsOf ds).bind fun ns => if 0 < ns.length then some (.f (.int (mnI ns))) else none
  | _ => none
theorem co_maxL : CallOk K (rMax K) cMaxL := by
  intro G H xs ds o l hx ho Q hQ
  unfold cMaxL at ho
  split at ho
  · rename_i es
    obtain ⟨x, rfl, h⟩ := pr1 hx
    obtain ⟨p, vs, rfl, h1, h2⟩ := h.lst l
    cases q : intsOf es with
    | none => rw [q] at ho; cases ho
    | some bs =>
      rw [q] at ho
      simp only [Option.bind_some] at ho
      split at ho
      · rename_i hl
        cases ho
        refine ⟨p, bs, rfl, ?_, hl, fun m hm hy => ?_⟩
        · rw [← ints_ok q h2]
          exact SqL.of h1
        · rw [← mxI_eq hm hy]
          exact ok_val (d := .int _) l rfl hQ
      · cases ho
  · cases ho
theorem co_minL : CallOk K (rMin K) cMinL := by
  intro G H xs ds o l hx ho Q hQ
  unfold cMinL at ho
  split at ho
  · rename_i es
    obtain ⟨x, rfl, h⟩ := pr1 hx
    obtain ⟨p, vs, rfl, h1, h2⟩ := h.lst l
    cases q : intsOf es with
    | none => rw [q] at ho; cases ho
    | some bs =>
      rw [q] at ho
      simp only [Option.bind_some] at ho
      split at ho
      · rename_i hl
        cases ho
        refine ⟨p, bs, rfl, ?_, hl, fun m hm hy => ?_⟩
        · rw [← ints_ok q h2]
          exact SqL.of h1
        · rw [← mnI_eq hm hy]
          exact ok_val (d := .int _) l rfl hQ
      · cases ho
  · cases ho
theorem de_maxL {p : Pos} (hc : X.calm = true) (hm : X.mg "max" = none) (ha : DA X W [e] fa) (hg : Gl X "max" := by rfl)
    (he : starEach [e] X.env = (false, eval e X.env) :: starEach [] X.env := by rfl) (hpl : (backTo pos (starEach [] X.env)).any (·.1) = false := by rfl) : DE X W (.Call (.Name "max" p) [e] [] pos) (fCB cMaxL fa) :=
  de_cb (cr_max hc) co_maxL hm (by decide +kernel) ha hg (by decide) (by decide) he hpl
theorem de_minL {p : Pos} (hc : X.calm = true) (hm : X.mg "min" = none) (ha : DA X W [e] fa) (hg : Gl X "min" := by rfl)
    (he : starEach [e] X.env = (false, eval e X.env) :: starEach [] X.env := by rfl) (hpl : (backTo pos (starEach [] X.env)).any (·.1) = false := by rfl) : DE X W (.Call (.Name "min" p) [e] [] pos) (fCB cMinL fa) :=
  de_cb (cr_min hc) co_minL hm (by decide +kernel) ha hg (by decide) (by decide) he hpl
end
theorem max_ints {ns : List Int} (h : 0 < ns.length) : cMaxL [.lst (ns.map D.int)] = some (.f (.int (mxI ns))) := by
  unfold cMaxL
  simp only [intsOf_map, Option.bind_some, if_pos h]
theorem min_ints {ns : List Int} (h : 0 < ns.length) : cMinL [.lst (ns.map D.int)] = some (.f (.int (mnI ns))) := by
  unfold cMinL
  simp only [intsOf_map, Option.bind_some, if_pos h]
theorem eqD_T {neg : Bool} {xs ys : List D} (h1 : layL xs = true) (h2 : layL ys = true) (d1 : depL xs ≤ 63) (d2 : depL ys ≤ 63) : eqD neg (.tup xs) (.tup ys) = some (.f (.bl (if neg = true then !PyData.eqvAll (pydL xs) (pydL ys) else PyData.eqvAll (pydL xs) (pydL ys)))) := by
  obtain ⟨a1, a2⟩ := lay_shaped (d := .tup xs) (by simp only [lay]; exact h1) (by simp only [dep]; omega)
  obtain ⟨b1, b2⟩ := lay_shaped (d := .tup ys) (by simp only [lay]; exact h2) (by simp only [dep]; omega)
  rw [eqD_of rfl a1 b1 a2 b2]
  simp only [pyd, PyData.eqv]
theorem eqD_sameT {neg : Bool} {xs : List D} (h1 : layL xs = true) (d1 : depL xs ≤ 63) : eqD neg (.tup xs) (.tup xs) = some (.f (.bl (!neg))) := by
  rw [eqD_T h1 h1 d1 d1]
  have := SeqAt.eqvAll_refl (pydL xs) (layL_py xs h1).2.1
  rw [this]
  cases neg <;> rfl
end DL
set_option Elab.async false
set_option linter.all false
set_option maxRecDepth 100000
set_option maxHeartbeats 4000000
/-! DL35: d.get(k), d.get(k, x), d.setdefault(k, x), d[k] = x of dicts of ints and texts. -/
namespace DL
open PySem L2
def lookK : List Key → List D → Key → Option D
  | a :: ks, d :: ds, k => if a = k then some d else lookK ks ds k
  | _, _, _ => none
def keyK : D → Option Key
  | .int i => some (.inl i)
  | .str x => some (.inr x)
  | _ => none
/-- the item under k is d -/
def setK : List Key → List D → Key → D → List D
  | a :: ks, x :: ds, k, d => (if a = k then d else x) :: setK ks ds k d
  | _, _, _, _ => []
section
variable {X : Cx} {W : WX'} {K : PySem.W.Frag} {o e z : Expr} {f1 g1 h1 : Sl → Rs NV} {apos cpos pos : Pos} {kk : Nat}
theorem key_ok {G : Hp} {d : D} {v : V} {k : Key} (r : R K G d v) (h : keyK d = some k) : v = kV k := by
  cases d <;> simp only [keyK] at h <;> cases h
  · exact r
  · exact r
theorem look_some {G : Hp} {k : Key} {d : D} : ∀ {ks : List Key} {ds : List D} {ws : List (Key × V)}, ws.map (·.1) = ks → RL K G ds (ws.map (·.2)) → lookK ks ds k = some d → ∃ v, valV ws k = some v ∧ R K G d v
  | ks, ds, [], hk, r, h => by
    subst hk
    cases ds <;> simp [lookK] at h
  | ks, ds, w :: ws, hk, r, h => by
    subst hk
    cases ds with
    | nil => simp [lookK] at h
    | cons x ds =>
      simp only [List.map_cons, RL, R.RL] at r
      obtain ⟨v, rr, e1, e2, e3⟩ := r
      obtain ⟨e4, e5⟩ := List.cons.inj e1
      simp only [List.map_cons, lookK] at h
      split at h
      · rename_i c
        cases h
        exact ⟨w.2, valV_pos c, by rw [e4]; exact e2⟩
      · rename_i c
        rw [valV_neg c]
        exact look_some rfl (by rw [e5]; exact e3) h
theorem look_none {G : Hp} {k : Key} : ∀ {ks : List Key} {ds : List D} {ws : List (Key × V)}, ws.map (·.1) = ks → RL K G ds (ws.map (·.2)) → lookK ks ds k = none → valV ws k = none
  | ks, ds, [], hk, r, h => rfl
  | ks, ds, w :: ws, hk, r, h => by
    subst hk
    cases ds with
    | nil => simp [RL, R.RL] at r
    | cons x ds =>
      simp only [List.map_cons, RL, R.RL] at r
      obtain ⟨v, rr, e1, e2, e3⟩ := r
      obtain ⟨e4, e5⟩ := List.cons.inj e1
      simp only [List.map_cons, lookK] at h
      split at h
      · cases h
      · rename_i c
        rw [valV_neg c]
        exact look_none rfl (by rw [e5]; exact e3) h
/-- d.get(k) -/
def fGet1 (f g : Sl → Rs NV) : Sl → Rs RV := fun S => (f S).bind fun n S1 => match view S1 n with
  | some (.dic _ _) => (g S1).bind fun m S2 => (match view S2 n, (dOf m).bind keyK with
    | some (.dic ks ds), some k => .ok (.f ((lookK ks ds k).getD .non)) S2
    | _, _ => .no)
  | _ => .no
theorem de_get1 (cg : Cg X.A kk) (ha : DN X W o f1) (hb : DN X W e g1) (hbase : attributeBase o "get" X.env (eval o X.env) = eval o X.env := by rfl)
    (hfew : ((backTo cpos (starEach [e] X.env)).all (fun x => !x.1) && (backToKw cpos (keywordEach [] X.env)).all (fun x => x.1.isSome) && decide (([e] : List Expr).length + ([] : List Keyword).length + (if ([] : List Keyword).isEmpty then 0 else 1) < 30)) = true := by rfl)
    (hline : (apos.endLine == cpos.line) = true := by rfl) (htr : backTo cpos (starEach [e] X.env) = [(false, eval e X.env)] := by rfl) : DE X W (.Call (.Attribute o "get" apos) [e] [] cpos) (fGet1 f1 g1) := by
  obtain ⟨td, p1, q1⟩ := ha
  obtain ⟨ty, p2, q2⟩ := hb
  refine ⟨_, pe_dget1 (by have := cg.room.units; omega) p1 p2 ⟨hbase, hfew, hline, htr⟩, fun τ σ S G H s Q hq => ?_⟩
  refine Gd.cases (Q1 := fun x H1 => ∃ a, x = V.ref a ∧ IsD H1 a ∧ ty σ H1 fun y H2 => ∃ o, DGet H2 a y o ∧ Q (o.getD .non) H2) bkR q1 s hq fun x n S1 G1 H1 s1 P oa hq1 => ?_
  cases ev : view S1 n with
  | none => simp only [ev] at hq1; exact hq1.elim
  | some d =>
    cases d <;> try (simp only [ev] at hq1; exact hq1.elim)
    simp only [ev] at hq1
    obtain ⟨p, ws, rfl, hr, _, _⟩ := (view_ok s1 oa ev).dic s1.le
    refine ⟨p, rfl, .inl ⟨ws, hr⟩, ?_⟩
    refine Gd.cases (Q1 := fun y H2 => ∃ o, DGet H2 p y o ∧ Q (o.getD .non) H2) bkR q2 s1 hq1 fun y m S2 G2 H2 s2 P2 ob hq2 => ?_
    cases ev2 : view S2 n with
    | none => simp only [ev2] at hq2; exact hq2.elim
    | some d2 =>
      cases d2 <;> try (simp only [ev2] at hq2; exact hq2.elim)
      rename_i ks ds
      cases m with
      | bo i => simp only [ev2] at hq2; exact hq2.elim
      | f dk =>
        cases ek : keyK dk with
        | none => simp only [ev2, dOf, Option.bind_some, ek] at hq2; exact hq2.elim
        | some k =>
          simp only [ev2, dOf, Option.bind_some, ek] at hq2
          obtain ⟨p', ws2, e1, hr2, hk2, r2⟩ := (view_ok s2 (NVOk.mono oa P2.st.ext) ev2).dic s2.le
          cases e1
          have ey := key_ok ob ek
          cases el : lookK ks ds k with
          | none =>
            rw [el] at hq2
            exact ⟨none, .inl ⟨ws2, k, hr2, ey, (look_none hk2 r2 el).symm⟩, hq2 .non G2 H2 (Pst.refl s2) ⟨rfl, fun _ z => nomatch z⟩⟩
          | some d =>
            rw [el] at hq2
            obtain ⟨v, hv, rv⟩ := look_some hk2 r2 el
            exact ⟨some v, .inl ⟨ws2, k, hr2, ey, hv.symm⟩, hq2 v G2 H2 (Pst.refl s2) ⟨rv, fun _ z => nomatch z⟩⟩
/-- d.get(k, x) -/
def fGet2 (f g h : Sl → Rs NV) : Sl → Rs RV := fun S => (f S).bind fun n S1 => match view S1 n with
  | some (.dic _ _) => (g S1).bind fun m S2 => (h S2).bind fun z S3 => (match view S3 n, (dOf m).bind keyK, dOf z with
    | some (.dic ks ds), some k, some d => .ok (.f ((lookK ks ds k).getD d)) S3
    | _, _, _ => .no)
  | _ => .no
theorem de_get2 (cg : Cg X.A kk) (ha : DN X W o f1) (hb : DN X W e g1) (hc : DN X W z h1) (hbase : attributeBase o "get" X.env (eval o X.env) = eval o X.env := by rfl)
    (hfew : ((backTo cpos (starEach [e, z] X.env)).all (fun x => !x.1) && (backToKw cpos (keywordEach [] X.env)).all (fun x => x.1.isSome) && decide (([e, z] : List Expr).length + ([] : List Keyword).length + (if ([] : List Keyword).isEmpty then 0 else 1) < 30)) = true := by rfl)
    (hline : (apos.endLine == cpos.line) = true := by rfl) (htr : backTo cpos (starEach [e, z] X.env) = [(false, eval e X.env), (false, eval z X.env)] := by rfl) : DE X W (.Call (.Attribute o "get" apos) [e, z] [] cpos) (fGet2 f1 g1 h1) := by
  obtain ⟨td, p1, q1⟩ := ha
  obtain ⟨ty, p2, q2⟩ := hb
  obtain ⟨tx, p3, q3⟩ := hc
  refine ⟨_, pe_dget2 (by have := cg.room.units; omega) p1 p2 p3 ⟨hbase, hfew, hline, htr⟩, fun τ σ S G H s Q hq => ?_⟩
  refine Gd.cases (Q1 := fun x H1 => ∃ a, x = V.ref a ∧ IsD H1 a ∧ ty σ H1 fun y H2 => tx σ H2 fun z H3 => ∃ o, DGet H3 a y o ∧ Q (o.getD z) H3) bkR q1 s hq fun x n S1 G1 H1 s1 P oa hq1 => ?_
  cases ev : view S1 n with
  | none => simp only [ev] at hq1; exact hq1.elim
  | some d =>
    cases d <;> try (simp only [ev] at hq1; exact hq1.elim)
    simp only [ev] at hq1
    obtain ⟨p, ws, rfl, hr, _, _⟩ := (view_ok s1 oa ev).dic s1.le
    refine ⟨p, rfl, .inl ⟨ws, hr⟩, ?_⟩
    refine Gd.cases (Q1 := fun y H2 => tx σ H2 fun z H3 => ∃ o, DGet H3 p y o ∧ Q (o.getD z) H3) bkR q2 s1 hq1 fun y m S2 G2 H2 s2 P2 ob hq2 => ?_
    refine Gd.cases (Q1 := fun z H3 => ∃ o, DGet H3 p y o ∧ Q (o.getD z) H3) bkR q3 s2 hq2 fun w zz S3 G3 H3 s3 P3 oc hq3 => ?_
    cases ev2 : view S3 n with
    | none => simp only [ev2] at hq3; exact hq3.elim
    | some d2 =>
      cases d2 <;> try (simp only [ev2] at hq3; exact hq3.elim)
      rename_i ks ds
      cases m with
      | bo i => simp only [ev2] at hq3; exact hq3.elim
      | f dk =>
        cases ek : keyK dk with
        | none => simp only [ev2, dOf, Option.bind_some, ek] at hq3; exact hq3.elim
        | some k =>
          cases zz with
          | bo i => simp only [ev2, dOf, Option.bind_some, ek] at hq3; exact hq3.elim
          | f dz =>
            simp only [ev2, dOf, Option.bind_some, ek] at hq3
            obtain ⟨p', ws2, e1, hr2, hk2, r2⟩ := (view_ok s3 (NVOk.mono oa (P2.st.ext.trans P3.st.ext)) ev2).dic s3.le
            cases e1
            have ey := key_ok (NVOk.mono ob P3.st.ext) ek
            cases el : lookK ks ds k with
            | none =>
              rw [el] at hq3
              exact ⟨none, .inl ⟨ws2, k, hr2, ey, (look_none hk2 r2 el).symm⟩, hq3 w G3 H3 (Pst.refl s3) ⟨oc, fun _ z => nomatch z⟩⟩
            | some d =>
              rw [el] at hq3
              obtain ⟨v, hv, rv⟩ := look_some hk2 r2 el
              exact ⟨some v, .inl ⟨ws2, k, hr2, ey, hv.symm⟩, hq3 v G3 H3 (Pst.refl s3) ⟨rv, fun _ z => nomatch z⟩⟩
end
end DL
set_option Elab.async false
set_option linter.all false
set_option maxRecDepth 100000
set_option maxHeartbeats 4000000
/-! DL36: d.setdefault(k, x), d[k] = x of an own dict. -/
namespace DL
open PySem L2
section
variable {X : Cx} {W : WX'} {K : PySem.W.Frag} {o e z : Expr} {f1 g1 h1 : Sl → Rs NV} {apos cpos pos : Pos} {kk : Nat}
theorem putK_none {ws : List (Key × V)} {k : Key} {v : V} (h : valV ws k = none) : putK ws k v = ws ++ [(k, v)] := by
  unfold valV at h
  rw [Option.map_eq_none_iff, List.find?_eq_none] at h
  unfold putK
  rw [if_neg]
  intro c
  obtain ⟨x, hx, e⟩ := List.any_eq_true.mp c
  exact h x hx e
theorem putK_some {ws : List (Key × V)} {k : Key} {v u : V} (h : valV ws k = some u) : putK ws k v = ws.map (fun kv => if kv.1 = k then (kv.1, v) else kv) := by
  unfold valV at h
  obtain ⟨x, hx, _⟩ := Option.map_eq_some_iff.mp h
  unfold putK
  rw [if_pos]
  exact List.any_eq_true.mpr ⟨x, List.mem_of_find?_eq_some hx, List.find?_some (p := fun kv : Key × V => decide (kv.1 = k)) hx⟩
theorem rl_setK {G : Hp} {k : Key} {d : D} {v : V} (hv : R K G d v) : ∀ {ks : List Key} {ds : List D} {ws : List (Key × V)}, ws.map (·.1) = ks → RL K G ds (ws.map (·.2)) → RL K G (setK ks ds k d) ((ws.map fun kv => if kv.1 = k then (kv.1, v) else kv).map (·.2)) ∧ (ws.map fun kv => if kv.1 = k then (kv.1, v) else kv).map (·.1) = ks
  | ks, ds, [], hk, r => by
    subst hk
    cases ds with
    | nil => exact ⟨RL.nil, rfl⟩
    | cons x ds => simp [RL, R.RL] at r
  | ks, ds, w :: ws, hk, r => by
    subst hk
    cases ds with
    | nil => simp [RL, R.RL] at r
    | cons x ds =>
      simp only [List.map_cons, RL, R.RL] at r
      obtain ⟨u, rr, e1, e2, e3⟩ := r
      obtain ⟨e4, e5⟩ := List.cons.inj e1
      obtain ⟨h1, h2⟩ := rl_setK hv (ks := ws.map (·.1)) (ds := ds) (ws := ws) rfl (by rw [e5]; exact e3)
      refine ⟨?_, ?_⟩
      · show RL K G ((if w.1 = k then d else x) :: setK (ws.map (·.1)) ds k d) _
        by_cases c : w.1 = k
        · rw [if_pos c]
          simp only [List.map_cons, if_pos c]
          exact RL.cons hv h1
        · rw [if_neg c]
          simp only [List.map_cons, if_neg c]
          exact RL.cons (by rw [e4]; exact e2) h1
      · simp only [List.map_cons, h2]
        by_cases c : w.1 = k
        · rw [if_pos c]
        · rw [if_neg c]
def isOd : Option SV → Bool
  | some (.od _ _ _) => true
  | _ => false
def fSetd (j : Nat) (g h : Sl → Rs NV) : Sl → Rs RV := fun S => if isOd (S[j]?) = true then (g S).bind fun m S1 => (h S1).bind fun z S2 => (match S2[j]?, (dOf m).bind keyK, dOf z with
  | some (.od t ks ds), some k, some d => if ds.length < 100000 then (match lookK ks ds k with
    | some x => .ok (.f x) S2
    | none => .ok (.f d) (S2.set j (.od t (ks ++ [k]) (ds ++ [d])))) else .no
  | _, _, _ => .no) else .no
theorem de_setd (j : Nat) {x : Str} {px : Pos} (hb : DN X W e g1) (hc : DN X W z h1) (hN : X.N[j]? = some x := by rfl) (hv : Vis X.env.scope x := by first | exact Or.inl rfl | exact Or.inr (Or.inl rfl) | exact Or.inr (Or.inr rfl)) (hd : (x == ("__debug__" : Str)) = false := by decide)
    (hcd : (x == ("__classdict__" : Str)) = false := by decide) (hbase : attributeBase (.Name x px) "setdefault" X.env (eval (.Name x px) X.env) = eval (.Name x px) X.env := by rfl)
    (hfew : ((backTo cpos (starEach [e, z] X.env)).all (fun x => !x.1) && (backToKw cpos (keywordEach [] X.env)).all (fun x => x.1.isSome) && decide (([e, z] : List Expr).length + ([] : List Keyword).length + (if ([] : List Keyword).isEmpty then 0 else 1) < 30)) = true := by rfl)
    (hline : (apos.endLine == cpos.line) = true := by rfl) (htr : backTo cpos (starEach [e, z] X.env) = [(false, eval e X.env), (false, eval z X.env)] := by rfl) : DE X W (.Call (.Attribute (.Name x px) "setdefault" apos) [e, z] [] cpos) (fSetd j g1 h1) := by
  obtain ⟨ty, p2, q2⟩ := hb
  obtain ⟨tx, p3, q3⟩ := hc
  refine ⟨_, pe_dsetd (pe_var hN hv hd hcd) p2 p3 ⟨hbase, hfew, hline, htr⟩, fun τ σ S G H s Q hq => ?_⟩
  unfold fSetd at hq
  cases es : S[j]? with
  | none => simp only [es, isOd] at hq; exact hq.elim
  | some sv =>
    cases sv <;> try (simp only [es, isOd] at hq; exact hq.elim)
    rename_i t0 ks0 ds0
    simp only [es, isOd, if_true] at hq
    obtain ⟨p, ws, a1, a2, _, _, _, _, _⟩ := ow_atD s es
    refine ⟨.ref p, vAt_some a1, p, rfl, .inl ⟨ws, .inl a2⟩, ?_⟩
    refine Gd.cases (Q1 := fun y H2 => tx σ H2 fun z H3 => ∃ (kvs : List (Key × V)) (k : Key), H3 p = some (.dK kvs) ∧ y = kV k ∧ kvs.length < sizeLine ∧ (∀ v, valV kvs k = some v → Q v H3) ∧ (valV kvs k = none → Q z (upd H3 p (.dK (putK kvs k z))))) bkR q2 s hq fun y m S2 G2 H2 s2 P2 ob hq2 => ?_
    refine Gd.cases (Q1 := fun z H3 => ∃ (kvs : List (Key × V)) (k : Key), H3 p = some (.dK kvs) ∧ y = kV k ∧ kvs.length < sizeLine ∧ (∀ v, valV kvs k = some v → Q v H3) ∧ (valV kvs k = none → Q z (upd H3 p (.dK (putK kvs k z))))) bkR q3 s2 hq2 fun w zz S3 G3 H3 s3 P3 oc hq3 => ?_
    cases e3 : S3[j]? with
    | none => simp only [e3] at hq3; exact hq3.elim
    | some sv =>
      cases sv <;> try (simp only [e3] at hq3; exact hq3.elim)
      rename_i t ks ds
      cases m with
      | bo i => simp only [e3, dOf, Option.bind_none] at hq3; exact hq3.elim
      | f dk =>
        cases ek : keyK dk with
        | none => simp only [e3, dOf, Option.bind_some, ek] at hq3; exact hq3.elim
        | some k =>
          cases zz with
          | bo i => simp only [e3, dOf, Option.bind_some, ek] at hq3; exact hq3.elim
          | f dz =>
            simp only [e3, dOf, Option.bind_some, ek] at hq3
            obtain ⟨p', ws2, b1, b2, b3, b4, b5, b6, b7⟩ := ow_atD s3 e3
            rw [a1] at b1
            cases b1
            have ey := key_ok (NVOk.mono ob P3.st.ext) ek
            by_cases hl : ds.length < 100000
            · rw [if_pos hl] at hq3
              have hlen : ws2.length < sizeLine := by
                have := b5.len
                rw [List.length_map] at this
                rw [this]
                exact Nat.lt_of_lt_of_le hl (by decide)
              refine ⟨ws2, k, b2, ey, hlen, fun v hv => ?_, fun hv => ?_⟩
              · cases el : lookK ks ds k with
                | none => rw [look_none b4 b5 el] at hv; cases hv
                | some d =>
                  simp only [el] at hq3
                  obtain ⟨v', hv', rv⟩ := look_some b4 b5 el
                  rw [hv'] at hv
                  cases hv
                  exact hq3 _ G3 H3 (Pst.refl s3) ⟨rv, fun _ z => nomatch z⟩
              · cases el : lookK ks ds k with
                | some d =>
                  obtain ⟨v', hv', rv⟩ := look_some b4 b5 el
                  rw [hv'] at hv
                  cases hv
                | none =>
                  simp only [el] at hq3
                  rw [putK_none hv]
                  exact hq3 w G3 _ (pst_putD s3 e3 a1 (by rw [List.map_append, b4]; rfl) (by rw [List.map_append]; exact RL.app b5 (RL.cons oc RL.nil))) ⟨oc, fun _ z => nomatch z⟩
            · rw [if_neg hl] at hq3
              exact hq3.elim
def sPutD (j : Nat) (fi fe : Sl → Rs NV) : Sl → Out := fun S => bindS (fe S) fun n S1 => bindS (fVar j S1) fun _ S2 => bindS (fi S2) fun m S3 => match dOf n, (dOf m).bind keyK, S3[j]? with
  | some d, some k, some (.od t ks ds) => if ds.length < 100000 then (match lookK ks ds k with
    | some _ => .nx (S3.set j (.od t ks (setK ks ds k d)))
    | none => .nx (S3.set j (.od t (ks ++ [k]) (ds ++ [d])))) else .no
  | _, _, _ => .no
theorem ds_putD (cg : Cg X.A kk) (j : Nat) {x : Str} {px ppos : Pos} {i : Expr} (he : DN X W e f1) (hi : DN X W i g1) (hN : X.N[j]? = some x := by rfl) (hv : Vis X.env.scope x := by first | exact Or.inl rfl | exact Or.inr (Or.inl rfl) | exact Or.inr (Or.inr rfl)) (hd : (x == ("__debug__" : Str)) = false := by decide)
    (hcd : (x == ("__classdict__" : Str)) = false := by decide)
    (ha : ∀ v, assign (.Subscript (.Name x px) i ppos) X.env v = (do
      let ov ← holding [v] (eval (.Name x px) X.env)
      let iv ← holding [v, ov] (eval i X.env)
      standAt ppos
      holding [v, ov, iv] (setItem ov iv v)
      release [v, ov, iv] []) := by intro _; rfl)
    (hs : swapsWithSole [.Subscript (.Name x px) i ppos] e pos.line X.env = pure false := by rfl) (hw : swappedStores [.Subscript (.Name x px) i ppos] e X.env = pure none := by rfl)
    (hh : (assignEach [.Subscript (.Name x px) i ppos] X.env).map (·.2) = [assign (.Subscript (.Name x px) i ppos) X.env] := by rfl) : DS X W (.Assign [.Subscript (.Name x px) i ppos] e pos) (sPutD j g1 f1) := by
  obtain ⟨t, p, q⟩ := he
  obtain ⟨ti, pi, qi⟩ := hi
  refine ⟨_, ps_asg p (pg_sub (pe_var hN hv hd hcd) pi (set_dict (by have := cg.room.units; omega)) ha) hs hw hh, fun τ σ S G H s D hq => ?_⟩
  refine Gs.cases (Q1 := fun x H1 => gSub (tVar j) ti rSetD x σ H1 D.nx) q s hq fun x n S1 G1 H1 s1 P o r1 => ?_
  refine den_varX (Q1 := fun ov H2 => ti σ H2 fun iv H3 => rSetD ov iv x H3 fun H4 => D.nx σ H4) j s1 r1 fun ov _ hov r2 => ?_
  refine Gs.cases (Q1 := fun iv H3 => rSetD ov iv x H3 fun H4 => D.nx σ H4) qi s1 r2 fun y m S3 G3 H3 s3 P3 o3 r3 => ?_
  cases n with
  | bo i => exact r3.elim
  | f d =>
    cases m with
    | bo i => exact r3.elim
    | f dk =>
      cases ek : keyK dk with
      | none => simp only [dOf, Option.bind_some, ek] at r3; exact r3.elim
      | some k =>
        cases e1 : S3[j]? with
        | none => simp only [dOf, Option.bind_some, ek, e1] at r3; exact r3.elim
        | some sv =>
          cases sv <;> try (simp only [dOf, Option.bind_some, ek, e1] at r3; exact r3.elim)
          rename_i t0 ks ds
          simp only [dOf, Option.bind_some, ek, e1] at r3
          obtain ⟨pp, ws, b1, b2, b3, b4, b5, b6, b7⟩ := ow_atD s3 e1
          rw [vAt_of hov] at b1
          cases b1
          have rx : R X.K G3 d x := R.mono P3.st.ext _ _ o
          have ey := key_ok o3 ek
          by_cases hl : ds.length < 100000
          · rw [if_pos hl] at r3
            have hlen : ws.length < sizeLine := by
              have := b5.len
              rw [List.length_map] at this
              rw [this]
              exact Nat.lt_of_lt_of_le hl (by decide)
            refine ⟨pp, _, rfl, .inl ⟨ws, k, b2, ey, hlen, rfl⟩, ?_⟩
            cases el : lookK ks ds k with
            | none =>
              simp only [el] at r3
              rw [putK_none (look_none b4 b5 el)]
              exact r3 σ G3 _ (pst_putD s3 e1 (vAt_of hov) (by rw [List.map_append, b4]; rfl) (by rw [List.map_append]; exact RL.app b5 (RL.cons rx RL.nil))).s
            | some d' =>
              simp only [el] at r3
              obtain ⟨v', hv', rv⟩ := look_some b4 b5 el
              rw [putK_some hv']
              obtain ⟨c1, c2⟩ := rl_setK rx b4 b5
              exact r3 σ G3 _ (pst_putD s3 e1 (vAt_of hov) c2 c1).s
          · rw [if_neg hl] at r3
            exact r3.elim
end
/-! steps -/
section
variable {f1 g1 h1 : Sl → Rs NV} {S : Sl} {P : RV → Sl → Prop} {N : Sl → Prop} {R : RV → Sl → Prop} {B C : Sl → Prop} {j : Nat}
def dicAt (d : D) (Q : List Key → List D → Prop) : Prop := match d with
  | .dic ks ds => Q ks ds
  | _ => False
theorem wp_Get1 : wp (fGet1 f1 g1 S) P = wp (f1 S) fun n S1 => oP (view S1 n) fun d => dicAt d fun _ _ => wp (g1 S1) fun m S2 => oP (view S2 n) fun d => dicAt d fun ks ds => oP ((dOf m).bind keyK) fun k => P (.f ((lookK ks ds k).getD .non)) S2 := by
  unfold fGet1
  rw [wp_bind]
  congr
  funext n S1
  cases view S1 n with
  | none => rfl
  | some d =>
    cases d <;> try rfl
    simp only [oP_some, dicAt]
    rw [wp_bind]
    congr
    funext m S2
    cases view S2 n with
    | none => rfl
    | some d =>
      cases d <;> try rfl
      simp only [oP_some, dicAt]
      cases (dOf m).bind keyK <;> rfl
theorem wp_Get2 : wp (fGet2 f1 g1 h1 S) P = wp (f1 S) fun n S1 => oP (view S1 n) fun d => dicAt d fun _ _ => wp (g1 S1) fun m S2 => wp (h1 S2) fun z S3 => oP (view S3 n) fun d => dicAt d fun ks ds => oP ((dOf m).bind keyK) fun k => oP (dOf z) fun d => P (.f ((lookK ks ds k).getD d)) S3 := by
  unfold fGet2
  rw [wp_bind]
  congr
  funext n S1
  cases view S1 n with
  | none => rfl
  | some d =>
    cases d <;> try rfl
    simp only [oP_some, dicAt]
    rw [wp_bind]
    congr
    funext m S2
    rw [wp_bind]
    congr
    funext z S3
    cases view S3 n with
    | none => rfl
    | some d =>
      cases d <;> try rfl
      simp only [oP_some, dicAt]
      cases (dOf m).bind keyK with
      | none => rfl
      | some k => cases dOf z <;> rfl
def odAt (S : Sl) (j : Nat) (Q : Option Nat → List Key → List D → Prop) : Prop := match S[j]? with
  | some (.od t ks ds) => Q t ks ds
  | _ => False
theorem wp_Setd : wp (fSetd j g1 h1 S) P = (isOd (S[j]?) = true ∧ wp (g1 S) fun m S1 => wp (h1 S1) fun z S2 => odAt S2 j fun t ks ds => oP ((dOf m).bind keyK) fun k => oP (dOf z) fun d => ds.length < 100000 ∧ wp (match lookK ks ds k with
    | some x => .ok (.f x) S2
    | none => .ok (.f d) (S2.set j (.od t (ks ++ [k]) (ds ++ [d])))) P) := by
  unfold fSetd
  rw [wp_ifno, wp_bind]
  congr
  funext m S1
  rw [wp_bind]
  congr
  funext z S2
  unfold odAt
  cases S2[j]? with
  | none => rfl
  | some sv =>
    cases sv <;> try rfl
    simp only
    cases (dOf m).bind keyK with
    | none => rfl
    | some k =>
      cases dOf z with
      | none => rfl
      | some d => exact wp_ifno
theorem wo_ifno {b : Prop} [Decidable b] {r : Out} : wo (if b then r else .no) N R B C = (b ∧ wo r N R B C) := by
  by_cases h : b <;> simp [h, wo]
theorem wo_PutD : wo (sPutD j g1 f1 S) N R B C = wp (f1 S) fun n S1 => wp (fVar j S1) fun _ S2 => wp (g1 S2) fun m S3 => oP (dOf n) fun d => oP ((dOf m).bind keyK) fun k => odAt S3 j fun t ks ds => ds.length < 100000 ∧ wo (match lookK ks ds k with
    | some _ => .nx (S3.set j (.od t ks (setK ks ds k d)))
    | none => .nx (S3.set j (.od t (ks ++ [k]) (ds ++ [d])))) N R B C := by
  unfold sPutD
  rw [wo_bindS]
  congr
  funext n S1
  rw [wo_bindS]
  congr
  funext _ S2
  rw [wo_bindS]
  congr
  funext m S3
  cases dOf n with
  | none => rfl
  | some d =>
    cases (dOf m).bind keyK with
    | none => rfl
    | some k =>
      unfold odAt
      cases S3[j]? with
      | none => rfl
      | some sv =>
        cases sv <;> try rfl
        exact wo_ifno
end
end DL
set_option Elab.async false
set_option linter.all false
set_option maxRecDepth 100000
set_option maxHeartbeats 4000000
/-! DL37: a, b = x, y over a tuple that is made (one of the names is captured). -/
namespace DL
open PySem L2
section
variable {X : Cx} {W : WX'} {K : PySem.W.Frag}
def gNames : List Nat → TGs
  | [] => gNil
  | i :: is => gCons (gName i) (gNames is)
theorem gNames_ok {Q : L2.St → Hp → Prop} : ∀ {is : List Nat} {vs : List V} {σ : L2.St} {H : Hp}, vs.length = is.length → Q (setsV is vs σ) H → gNames is vs σ H Q
  | [], [], σ, H, _, h => ⟨rfl, h⟩
  | [], _ :: _, _, _, e, _ => by cases e
  | _ :: _, [], _, _, e, _ => by cases e
  | i :: is, v :: vs, σ, H, e, h => ⟨v, vs, rfl, gNames_ok (by simpa using e) h⟩
theorem setsR_len : ∀ {is : List Nat} {rs : List RV} {S S' : Sl}, setsR is rs S = some S' → rs.length = is.length
  | [], [], _, _, _ => rfl
  | [], _ :: _, _, _, e => by cases e
  | _ :: _, [], _, _, e => by cases e
  | i :: is, r :: rs, S, S', e => by
    simp only [setsR] at e
    cases q : svOf r with
    | none => rw [q] at e; cases e
    | some sv =>
      rw [q] at e
      show rs.length + 1 = is.length + 1
      rw [setsR_len e]
theorem den_parT {t : TA} {fa : Sl → Rs (List RV)} {is : List Nat} (q : Dn okAR K W t fa) (hl : is.length ≤ 100) : DnS K W (tAsg (tTup t) (gTup K is.length (gNames is))) (sPar is fa) := by
  intro τ σ S G H s D hq
  show t σ H fun xs H1 => xs.length ≤ sizeLine ∧ ∀ p, H1 p = none → gTup K is.length (gNames is) (.ref p) σ (upd H1 p (.tup xs)) D.nx
  refine q τ σ S G H s _ ?_
  unfold sPar at hq
  cases e0 : fa S with
  | no => simp only [e0, bindS_no] at hq; exact hq.elim
  | ex x S1 => simp only [e0, bindS_ex] at hq; exact fun c d G' H' P o => hq c d σ G' H' P.s o
  | ok rs S1 =>
    simp only [e0, bindS_ok] at hq
    intro vs G1 H1 P o
    cases e1 : setsR is rs S1 with
    | none => simp only [e1] at hq; exact hq.elim
    | some S2 =>
      simp only [e1] at hq
      have len : vs.length = is.length := by rw [o.1.length]; exact setsR_len e1
      refine ⟨by rw [len]; exact Nat.le_trans hl (by decide), fun p hp => ⟨p, vs, rfl, SqT.of upd_same, len, gNames_ok len ?_⟩⟩
      have st : Stp (fun _ => False) G1 H1 G1 (upd H1 p (.tup vs)) := stp_new hp
      have PP := P.trans (Pst.new P.sl st (le_new P.sl.le hp))
      have o1 : Paired (RVOk K G1 (upd H1 p (.tup vs)) σ) vs rs := Paired.mono' (fun a b h => h.keep st fun _ _ z => z) o.1
      have no : ∀ p ∈ ras vs rs, ¬ Ow σ S1 p := fun p hp z => (s.owned (P.ow p z)).1 (o.2.1 p hp)
      obtain ⟨s2, ow⟩ := sets_ok PP.sl o1 no o.2.2 e1
      exact hq _ G1 _ ⟨PP.st, s2, fun p z => (ow p z).imp (P.ow p) (o.2.1 p)⟩
theorem ds_parT {es : List Expr} {tg : Expr} {k2 : Nat} {pt2 pos : Pos} {fa : Sl → Rs (List RV)} {is js : List Nat} {bind : D → Sl → Option Sl} (ha : DAR X W es fa) (hg : DG X tg (gTup X.K is.length (gNames is)) js bind) (hl : is.length ≤ 100 := by decide)
    (hs : swapsWithSole [tg] (.Tuple es k2 pt2) pos.line X.env = pure false := by rfl) (hw : swappedStores [tg] (.Tuple es k2 pt2) X.env = pure none := by rfl)
    (h1 : (assignEach [tg] X.env).map (·.2) = [assign tg X.env] := by rfl) : DS X W (.Assign [tg] (.Tuple es k2 pt2) pos) (sPar is fa) := by
  obtain ⟨t, p, q⟩ := ha
  exact ⟨_, ps_asg (pe_tup p) hg.1 hs hw h1, den_parT q hl⟩
end
end DL
set_option Elab.async false
set_option linter.all false
set_option maxRecDepth 100000
set_option maxHeartbeats 4000000
/-! DL38: sorted(xs) of ints. -/
namespace DL
open PySem L2
def insI (x : Int) : List Int → List Int
  | [] => [x]
  | y :: ys => if x ≤ y then x :: y :: ys else y :: insI x ys
def sortI (ns : List Int) : List Int := ns.foldr insI []
theorem insI_perm {x : Int} : ∀ {ys : List Int}, (insI x ys).Perm (x :: ys)
  | [] => List.Perm.refl _
  | y :: ys => by
    unfold insI
    split
    · exact List.Perm.refl _
    · exact ((insI_perm (ys := ys)).cons y).trans (List.Perm.swap _ _ _)
theorem insI_le {x : Int} : ∀ {ys : List Int}, ys.Pairwise (· ≤ ·) → (insI x ys).Pairwise (· ≤ ·)
  | [], _ => by simp [insI]
  | y :: ys, h => by
    obtain ⟨h1, h2⟩ := List.pairwise_cons.mp h
    unfold insI
    split
    · rename_i c
      refine List.pairwise_cons.mpr ⟨fun z hz => ?_, h⟩
      rcases List.mem_cons.mp hz with rfl | hz
      · exact c
      · have := h1 z hz; omega
    · rename_i c
      refine List.pairwise_cons.mpr ⟨fun z hz => ?_, insI_le h2⟩
      rcases List.mem_cons.mp (insI_perm.mem_iff.mp hz) with rfl | hz
      · omega
      · exact h1 z hz
theorem sortI_perm : ∀ {ns : List Int}, (sortI ns).Perm ns
  | [] => List.Perm.refl _
  | n :: ns => insI_perm.trans ((sortI_perm (ns := ns)).cons n)
theorem sortI_le : ∀ {ns : List Int}, (sortI ns).Pairwise (· ≤ ·)
  | [] => List.Pairwise.nil
  | n :: ns => insI_le (sortI_le (ns := ns))
theorem sortI_eq {ns ms : List Int} (h1 : ms.Perm ns) (h2 : ms.Pairwise (· ≤ ·)) : ms = sortI ns :=
  List.Perm.eq_of_pairwise (fun a b _ _ h k => by omega) h2 sortI_le (h1.trans sortI_perm.symm)
section
variable {X : Cx} {W : WX'} {K : PySem.W.Frag} {e : Expr} {fa : Sl → Rs (List NV)} {pos : Pos}
def cSortI : List D → Option RV
  | [.lst ds] => (intsOf ds).bind fun ns => if ns.length ≤ 100000 then some (.ol ((sortI ns).map .int)) else none
  | _ => none
theorem co_sortI : CallOk K (rSortedI K) cSortI := by
  intro G H xs ds o l hx ho Q hQ
  unfold cSortI at ho
  split at ho
  · rename_i es
    obtain ⟨x, rfl, h⟩ := pr1 hx
    obtain ⟨p, vs, rfl, h1, h2⟩ := h.lst l
    cases q : intsOf es with
    | none => rw [q] at ho; cases ho
    | some bs =>
      rw [q] at ho
      simp only [Option.bind_some] at ho
      split at ho
      · cases ho
        refine ⟨p, bs, rfl, ?_, fun ns' r hp hs hr => ?_⟩
        · rw [← ints_ok q h2]
          exact SqL.of h1
        · rw [sortI_eq hp hs]
          exact ok_newL l (rl_ints _) hQ r hr
      · cases ho
  · cases ho
theorem de_sortI {p : Pos} (hm : X.mg "sorted" = none) (ha : DA X W [e] fa) (hg : Gl X "sorted" := by rfl)
    (he : starEach [e] X.env = (false, eval e X.env) :: starEach [] X.env := by rfl) (hpl : (backTo pos (starEach [] X.env)).any (·.1) = false := by rfl) : DE X W (.Call (.Name "sorted" p) [e] [] pos) (fCB cSortI fa) :=
  de_cb cr_sortedI co_sortI hm (by decide +kernel) ha hg (by decide) (by decide) he hpl
end
theorem sort_ints {ns : List Int} (h : ns.length ≤ 100000) : cSortI [.lst (ns.map D.int)] = some (.ol ((sortI ns).map .int)) := by
  unfold cSortI
  simp only [intsOf_map, Option.bind_some, if_pos h]
end DL
set_option Elab.async false
set_option linter.all false
set_option maxRecDepth 100000
set_option maxHeartbeats 4000000
/-! DX2: texts as data: str(i), int(text), count, split, index, a sign in a text, a text walked. -/
namespace DL
open PySem L2
section
variable {X : Cx} {W : WX'} {K : PySem.W.Frag} {a b e tg iter : Expr} {fa : Sl → Rs (List NV)} {f1 g1 : Sl → Rs NV} {pos : Pos}
/-! ### str(i) -/
def cStr : List D → Option RV
  | [.int i] => if i.natAbs < 10 ^ 570 then some (.f (.str (Str.ofString (toString i)))) else none
  | _ => none
theorem log_lt {n : Nat} (h : n < 10 ^ 570) : n.log2 < 1920 := by
  by_cases z : n = 0
  · subst z; decide
  · exact (Nat.log2_lt z).mpr (Nat.lt_trans h (by decide +kernel))
theorem co_str : CallOk K (fun xs H Q => ∃ i, xs = [.int i] ∧ i.natAbs.log2 < 1920 ∧ Q (.str (toString i)) H) cStr := by
  intro G H xs ds o l hx ho Q hQ
  unfold cStr at ho
  split at ho
  · rename_i i
    obtain ⟨x, rfl, h⟩ := pr1 hx
    by_cases z : i.natAbs < 10 ^ 570
    · rw [if_pos z] at ho
      cases ho
      cases h.int
      exact ⟨i, rfl, log_lt z, ok_val (d := .str _) l rfl hQ⟩
    · rw [if_neg z] at ho
      cases ho
  · cases ho
theorem de_strI {p : Pos} (hm : X.mg "str" = none) (ha : DA X W [e] fa) (hg : Gl X "str" := by rfl)
    (he : starEach [e] X.env = (false, eval e X.env) :: starEach [] X.env := by rfl) (hpl : (backTo pos (starEach [] X.env)).any (·.1) = false := by rfl) : DE X W (.Call (.Name "str" p) [e] [] pos) (fCB cStr fa) :=
  de_ct call_str_int co_str hm (by decide +kernel) ha hg (by decide) (by decide) he hpl
/-! ### int(text) -/
def cIntS : List D → Option RV
  | [.str x] => (match PySem.intText? x with
    | some n => if x.length ≤ 640 then some (.f (.int n)) else none
    | none => none)
  | _ => none
theorem co_intS : CallOk K (fun xs H Q => ∃ a n, xs = [.str a] ∧ PySem.intText? a = some n ∧ a.length ≤ 640 ∧ Q (.int n) H) cIntS := by
  intro G H xs ds o l hx ho Q hQ
  unfold cIntS at ho
  split at ho
  · rename_i u
    obtain ⟨x, rfl, h⟩ := pr1 hx
    cases q : PySem.intText? u with
    | none => rw [q] at ho; cases ho
    | some n =>
      rw [q] at ho
      by_cases z : u.length ≤ 640
      · simp only [if_pos z] at ho
        cases ho
        cases h.str
        exact ⟨u, n, rfl, q, z, ok_val (d := .int n) l rfl hQ⟩
      · simp only [if_neg z] at ho
        cases ho
  · cases ho
theorem de_intS {p : Pos} (hm : X.mg "int" = none) (ha : DA X W [e] fa) (hg : Gl X "int" := by rfl)
    (he : starEach [e] X.env = (false, eval e X.env) :: starEach [] X.env := by rfl) (hpl : (backTo pos (starEach [] X.env)).any (·.1) = false := by rfl) : DE X W (.Call (.Name "int" p) [e] [] pos) (fCB cIntS fa) :=
  de_ct call_int_str co_intS hm (by decide +kernel) ha hg (by decide) (by decide) he hpl
/-! ### s.count(t), s.split(t), s.index(t) -/
def oCount (d e : D) : Option RV := match d, e with
  | .str x, .str y => some (.f (.int (Txt.count x y)))
  | _, _ => none
theorem mo_count : M1Ok K (fun x xs H Q => ∃ a b, x = .str a ∧ xs = [.str b] ∧ Q (.int (Txt.count a b)) H) oCount := by
  intro G H x y d e o l hx hy ho Q hQ
  unfold oCount at ho
  split at ho
  · rename_i u w
    cases ho
    cases hx.str
    cases hy.str
    exact ⟨⟨_, rfl⟩, u, w, rfl, rfl, ok_val (d := .int _) l rfl hQ⟩
  · cases ho
theorem de_count {apos : Pos} (ho : DN X W a f1) (he : DN X W e g1) (hs : starEach [e] X.env = [(false, eval e X.env)] := by rfl) (hbase : attributeBase a "count" X.env (eval a X.env) = eval a X.env := by rfl) (hline : (apos.endLine == pos.line) = true := by rfl) :
    DE X W (.Call (.Attribute a "count" apos) [e] [] pos) (fStrM oCount f1 g1) := de_strM PySem.F.slot_str_count PySem.F.type_str_count mt_count mo_count ho he hs hbase hline
theorem rl_strs {G : Hp} : ∀ ys : List Str, RL K G (ys.map D.str) (ys.map V.str)
  | [] => RL.nil
  | y :: ys => RL.cons rfl (rl_strs ys)
def oSplit (d e : D) : Option RV := match d, e with
  | .str x, .str y => if y.length ≠ 0 ∧ x.length ≤ 100000 then some (.ol ((Txt.split x y).map D.str)) else none
  | _, _ => none
theorem mo_split : M1Ok K (fun x xs H Q => ∃ a b, x = .str a ∧ xs = [.str b] ∧ (b.length == 0) = false ∧ a.length + 2 ≤ sizeLine ∧ rNewStrs (Txt.split a b) H Q) oSplit := by
  intro G H x y d e o l hx hy ho Q hQ
  unfold oSplit at ho
  split at ho
  · rename_i u w
    by_cases h : w.length ≠ 0 ∧ u.length ≤ 100000
    · rw [if_pos h] at ho
      cases ho
      cases hx.str
      cases hy.str
      exact ⟨⟨_, rfl⟩, u, w, rfl, rfl, beq_eq_false_iff_ne.mpr h.1, Nat.le_trans (Nat.add_le_add_right h.2 2) (by decide), ok_newL l (rl_strs _) hQ⟩
    · rw [if_neg h] at ho
      cases ho
  · cases ho
theorem de_split {apos : Pos} (ho : DN X W a f1) (he : DN X W e g1) (hs : starEach [e] X.env = [(false, eval e X.env)] := by rfl) (hbase : attributeBase a "split" X.env (eval a X.env) = eval a X.env := by rfl) (hline : (apos.endLine == pos.line) = true := by rfl) :
    DE X W (.Call (.Attribute a "split" apos) [e] [] pos) (fStrM oSplit f1 g1) := de_strM PySem.F.slot_str_split PySem.F.type_str_split mt_split mo_split ho he hs hbase hline
theorem mt_idx : MtR X "str.index" (fun x xs H Q => ∃ a b k, x = .str a ∧ xs = [.str b] ∧ Txt.index0 a b = some k ∧ Q (.int (k : Nat)) H) := by
  intro pins s σ H x xs v us Q I rx rs h
  obtain ⟨a, b, k, rfl, rfl, hk, hq⟩ := h
  obtain ⟨t, rfl⟩ := rx
  cases rs with
  | cons r1 rs =>
    cases rs
    obtain ⟨u, rfl⟩ := r1
    cases q : Builtin.Str.occurrences a b 0 a.length 1 with
    | nil => unfold Txt.index0 at hk; rw [q] at hk; cases hk
    | cons j rest =>
      have e : j = k := by unfold Txt.index0 at hk; rw [q] at hk; exact Option.some.inj hk
      subst e
      exact PySem.SC.index q ⟨.int (j : Nat), H, I.tok _, ⟨_, rfl⟩, hq⟩
def oIdx (d e : D) : Option RV := match d, e with
  | .str x, .str y => (Txt.index0 x y).map fun k => .f (.int (k : Nat))
  | _, _ => none
theorem mo_idx : M1Ok K (fun x xs H Q => ∃ a b k, x = .str a ∧ xs = [.str b] ∧ Txt.index0 a b = some k ∧ Q (.int (k : Nat)) H) oIdx := by
  intro G H x y d e o l hx hy ho Q hQ
  unfold oIdx at ho
  split at ho
  · rename_i u w
    cases q : Txt.index0 u w with
    | none => rw [q] at ho; cases ho
    | some k =>
      rw [q] at ho
      cases ho
      cases hx.str
      cases hy.str
      exact ⟨⟨_, rfl⟩, u, w, k, rfl, rfl, q, ok_val (d := .int _) l rfl hQ⟩
  · cases ho
theorem de_index {apos : Pos} (ho : DN X W a f1) (he : DN X W e g1) (hs : starEach [e] X.env = [(false, eval e X.env)] := by rfl) (hbase : attributeBase a "index" X.env (eval a X.env) = eval a X.env := by rfl) (hline : (apos.endLine == pos.line) = true := by rfl) :
    DE X W (.Call (.Attribute a "index" apos) [e] [] pos) (fStrM oIdx f1 g1) := de_strM PySem.F.slot_str_index PySem.F.type_str_index mt_idx mo_idx ho he hs hbase hline
/-! ### c in text, c one sign -/
def oInS (neg : Bool) (d e : D) : Option RV := match d, e with
  | .str x, .str y => (match x.cps.toList with
    | [c] => some (.f (.bl (if neg = true then !decide (c ∈ y.cps.toList) else decide (c ∈ y.cps.toList))))
    | _ => none)
  | _, _ => none
theorem one_sign {x : Str} {c : Nat} (h : x.cps.toList = [c]) : x = ⟨#[c]⟩ := Str.ext' (Array.toList_inj.mp h)
theorem oo_inS (neg : Bool) : OpOk K (fun x y H Q => ∃ (c : Nat) (z : Str), x = .str ⟨#[c]⟩ ∧ y = .str z ∧ Q (.bl (if neg = true then !decide (c ∈ z.cps.toList) else decide (c ∈ z.cps.toList))) H) (oInS neg) := by
  intro G H x y d e o l hx hy ho Q hQ
  unfold oInS at ho
  split at ho
  · rename_i u w
    split at ho
    · rename_i c hc
      cases ho
      cases hx.str
      cases hy.str
      exact ⟨c, w, congrArg V.str (one_sign hc), rfl, ok_val (d := .bl _) l rfl hQ⟩
    · cases ho
  · cases ho
theorem de_inS (ha : DN X W a f1) (hb : DN X W b g1) (hm : behindInMarks .In b = false := by rfl) : DE X W (.Compare a [.In] [b] pos) (fOp (oInS false) f1 g1) := de_cmp op_in_sign (oo_inS false) ha hb hm
theorem de_notInS (ha : DN X W a f1) (hb : DN X W b g1) (hm : behindInMarks .NotIn b = false := by rfl) : DE X W (.Compare a [.NotIn] [b] pos) (fOp (oInS true) f1 g1) := de_cmp op_notIn_sign (oo_inS true) ha hb hm
theorem dt_inS (ha : DN X W a f1) (hb : DN X W b g1) (hm : behindInMarks .In b = false := by rfl) : DT X W (.Compare a [.In] [b] pos) (fB (frz (fOp (oInS false) f1 g1))) := dt_cmp op_in_sign (oo_inS false) ha hb hm
theorem dt_notInS (ha : DN X W a f1) (hb : DN X W b g1) (hm : behindInMarks .NotIn b = false := by rfl) : DT X W (.Compare a [.NotIn] [b] pos) (fB (frz (fOp (oInS true) f1 g1))) := dt_cmp op_notIn_sign (oo_inS true) ha hb hm
/-! ### for .. in a text -/
def signsD (x : Str) : List D := x.cps.toList.map fun c => .str ⟨#[c]⟩
def txtOf (n : NV) (S : Sl) : Rs (List D) := match n with
  | .f (.str x) => .ok (signsD x) S
  | _ => .no
theorem it_str {G : Hp} {x : Str} : ItOk K G (Its x) (signsD x) [] := by
  refine ⟨fun _ z => (nomatch z), fun G1 H1 e l _ i d hd => ?_, fun G1 H1 e l _ => ?_⟩
  · unfold signsD at hd
    rw [List.getElem?_map, Array.getElem?_toList] at hd
    cases q : x.cps[i]? with
    | none => rw [q] at hd; cases hd
    | some c =>
      rw [q] at hd
      cases hd
      refine ⟨(Array.getElem?_eq_some_iff.mp q).1, fun y H' ⟨e1, c', e2, e3⟩ => ⟨G1, ?_, ?_, ?_⟩⟩
      · rw [e1]; exact Stp.refl
      · rw [e1]; exact l
      · rw [q] at e2
        cases e2
        exact e3
  · show x.cps.size ≤ (signsD x).length
    unfold signsD
    simp
theorem di_str (h : DN X W iter f1) : DI X W tg iter (fun S => (f1 S).bind txtOf) := by
  obtain ⟨t, p, q⟩ := h
  refine ⟨_, pi_str p, fun τ σ S G H s Q hq => Gd.cases (Q1 := fun x H1 => ∃ y, x = V.str y ∧ Q (Its y) H1) bkI q s hq fun x n S1 G1 H1 s1 P o r => ?_⟩
  cases n with
  | bo i => exact r.elim
  | f d =>
    cases d <;> try exact r.elim
    rename_i y
    exact ⟨y, o, r _ G1 H1 (Pst.refl s1) ⟨[], (fun _ z => nomatch z), it_str⟩⟩
end
end DL
set_option Elab.async false
set_option linter.all false
set_option maxRecDepth 100000
set_option maxHeartbeats 4000000
/-! DX3: defs with keyword-only parameters that have defaults: told once, called with any of them written. -/
namespace DL
open PySem L2
/-- the def x of the top, its keyword-only defaults kws -/
structure TxD (K : PySem.W.Frag) (x : Str) (st : Stmt) (kws : List (Str × V)) : Prop where
  ex : ∃ (f : Addr) (fd : FuncData), PySem.W.nsIn K mainGlobals x = some (some (.ref f)) ∧ FunD K x x (defArgs st) (defBody st) (defScope st) [] kws f fd
inductive KwIn (K : PySem.W.Frag) (D : Addr) : List (Str × V) → Prop where
  | nil : KwIn K D []
  | int {n : Str} {i : Int} {t : Tok} {l : List (Str × V)} (h : PySem.W.nsIn K D n = some (some (.int i t))) (r : KwIn K D l) : KwIn K D ((n, .int i) :: l)
  | str {n : Str} {x : Str} {t : Tok} {l : List (Str × V)} (h : PySem.W.nsIn K D n = some (some (.str x t))) (r : KwIn K D l) : KwIn K D ((n, .str x) :: l)
  | non {n : Str} {l : List (Str × V)} (h : PySem.W.nsIn K D n = some (some .none)) (r : KwIn K D l) : KwIn K D ((n, .non) :: l)
theorem KwIn.all {K : PySem.W.Frag} {D : Addr} {l : List (Str × V)} (h : KwIn K D l) : ∀ q ∈ l, ∃ u, PySem.W.nsIn K D q.1 = some (some u) ∧ RelV q.2 u := by
  induction h with
  | nil => intro q hq; cases hq
  | int h _ ih =>
    intro q hq
    rcases List.mem_cons.mp hq with rfl | hq
    · exact ⟨_, h, _, rfl⟩
    · exact ih q hq
  | str h _ ih =>
    intro q hq
    rcases List.mem_cons.mp hq with rfl | hq
    · exact ⟨_, h, _, rfl⟩
    · exact ih q hq
  | non h _ ih =>
    intro q hq
    rcases List.mem_cons.mp hq with rfl | hq
    · exact ⟨_, h, rfl⟩
    · exact ih q hq
theorem txd_mk {K : PySem.W.Frag} {x : Str} {st : Stmt} {f D : Addr} {oc : Value} {od an : Option Addr} {osl : Array (Option Value)} {doc pm cdv ct : Value} {kws : List (Str × V)} (a : PySem.W.nsIn K mainGlobals x = some (some (.ref f)))
    (l : K.lookup f = some ⟨oc, od, .func (PySem.W.fnOf x x (defArgs st) (defBody st) (defScope st) .none (.ref D) doc pm an cdv ct), osl⟩) (c : PySem.W.codeIn K cdv x = true) (k : PySem.W.keepIn K (.ref f) = true) (q : KwIn K D kws) : TxD K x st kws :=
  ⟨_, _, a, ⟨⟨oc, od, .none, .ref D, doc, pm, an, cdv, ct, osl, rfl, l, c, .inl ⟨rfl, rfl⟩, .inr ⟨D, rfl, q.all⟩⟩, k⟩⟩
/-- what such a def denotes, all its parameters given -/
structure FdK (P : Program) (w : World) (K : PySem.W.Frag) (mg : Str → Option Value) (base : Heap) (CX : CXT) (k : Nat) (x : Str) (ps : List Str) (st : Stmt) (kws : List (Str × V)) (F : Sl → Rs RV) : Prop where
  ex : ∃ f fd, mg x = some (.ref f) ∧ FunD K x x (defArgs st) (defBody st) (defScope st) [] kws f fd ∧ FnG P w K mg base CX k f fd ps (spD K ps.length F)
theorem fdk_den {P : Program} {w : World} {K : PySem.W.Frag} {mg : Str → Option Value} {base : Heap} {k m : Nat} {x : Str} {st : Stmt} {kws : List (Str × V)} {N ps : List Str} {F : Sl → Out} (wd : Wd K mg) (T : TxD K x st kws) (S : FnScope N ps (defScope st)) (hN : N.length = ps.length + m)
    (bd : ∀ (f : Addr) (cdv : Value) (A : Around) (outer : List Env) (s : Shared) (H : Hp) (E : XK), Cg (A.deeper (PyProof.Rows.envOfC x (defScope st) s.heap.objs.size f cdv)) k →
      DSs (cxOf CX0 P w K mg base N x (defScope st) f cdv A outer s H E).nox W0 (defBody st) F) : FdK P w K mg base CX0 (k + 1) x ps st kws (bodyF0 m F) := by
  obtain ⟨f, fd, h1, h2⟩ := T.ex
  have Fn : Fun K x x st f fd := by
    obtain ⟨oc, od, dV, kV, doc, pm, an, cdv, ct, osl, e, lk, hcd, hD, _⟩ := h2.ex
    rcases hD with ⟨_, rfl⟩ | ⟨z, _⟩
    · exact ⟨⟨oc, od, kV, doc, pm, an, cdv, ct, osl, e, lk, hcd⟩, h2.kp⟩
    · exact absurd rfl z
  exact ⟨f, fd, wd.of h1, h2, fnG_den0 Fn S hN fun cdv A outer s H E cg => bd f cdv A outer s H E cg⟩
section
variable {X : Cx} {W : WX'} {CX : CXT} {k k' : Nat} {x : Str} {ps ks : List Str} {st : Stmt} {kws : List (Str × V)} {F : Sl → Rs RV} {e : Expr} {es : List Expr} {kwE : List Keyword} {fa fk : Sl → Rs (List NV)} {p pos : Pos}
/-- the written ones, the lacking ones' defaults, the keywords: in the parameters' order -/
def fArr (is : List Nat) (ms : List D) (fa fk : Sl → Rs (List NV)) : Sl → Rs (List NV) := fun S => (fa S).bind fun ns S1 => (fk S1).bind fun zs S2 => .ok (pick is (ns ++ (ms.map NV.f ++ zs))) S2
/-- a list of defaults as data -/
@[reducible] def dfD : V → D
  | .int i => .int i
  | .str x => .str x
  | _ => .non
def okDf : V → Bool
  | .int _ | .str _ | .non => true
  | _ => false
theorem dfD_ok {K : PySem.W.Frag} {G : Hp} {σ : St} : ∀ {l : List V}, l.all okDf = true → Paired (NVOk K G σ) l ((l.map dfD).map NV.f)
  | [], _ => .nil
  | v :: l, h => by
    obtain ⟨h1, h2⟩ := Bool.and_eq_true_iff.mp (by simpa only [List.all_cons] using h)
    refine .cons ?_ (dfD_ok h2)
    show R K G (dfD v) v
    cases v <;> first | (cases h1; done) | rfl
theorem paired_app {α β : Type} {P : α → β → Prop} {l1 l2 : List α} {m1 m2 : List β} (h : Paired P l1 m1) (k : Paired P l2 m2) : Paired P (l1 ++ l2) (m1 ++ m2) := by
  induction h with
  | nil => exact k
  | cons a _ ih => exact .cons a ih
abbrev okAl (n : Nat) : Okk (List NV) (List V) := fun K σ _ G' _ vs rs => Paired (NVOk K G' σ) vs rs ∧ rs.length = n
theorem den_len {K : PySem.W.Frag} {t : TA} {n : Nat} (la : LenA fa n) (qa : DenA K W t fa) : Dn (okAl n) K W t fa := by
  intro τ σ S G H s Q hq
  refine qa τ σ S G H s Q ?_
  cases e : fa S with
  | ok ns S1 =>
    rw [e] at hq
    exact fun vs G1 H1 P oa => hq vs G1 H1 P ⟨oa, la _ _ _ e⟩
  | ex x S1 => rw [e] at hq; exact hq
  | no => rw [e] at hq; exact hq
theorem den_arr {t tk : TA} {n m : Nat} {is : List Nat} {mv : List V} (hv : mv.all okDf = true) (la : LenA fa n) (lk : LenA fk m) (qa : DenA X.K W t fa) (qk : DenA X.K W tk fk) :
    DenA X.K W (fun σ H Q => t σ H fun vs H1 => tk σ H1 fun zs H2 => vs.length = n ∧ zs.length = m ∧ Q (pick is (vs ++ (mv ++ zs))) H2) (fArr is (mv.map dfD) fa fk) := by
  intro τ σ S G H s Q hq
  unfold fArr at hq
  refine Gd.cases (Q1 := fun vs H1 => tk σ H1 fun zs H2 => vs.length = n ∧ zs.length = m ∧ Q (pick is (vs ++ (mv ++ zs))) H2) bkA (den_len la qa) s hq fun vs ns S1 G1 H1 s1 P oa hq1 => ?_
  refine Gd.cases (Q1 := fun zs H2 => vs.length = n ∧ zs.length = m ∧ Q (pick is (vs ++ (mv ++ zs))) H2) bkA (den_len lk qk) s1 hq1 fun zs ms S2 G2 H2 s2 P2 ok hq2 => ?_
  refine ⟨oa.1.length.trans oa.2, ok.1.length.trans ok.2, hq2 _ G2 H2 (Pst.refl s2) (pick_paired ?_ is)⟩
  exact paired_app (Paired.mono' (fun v d h => NVOk.mono h P2.st.ext) oa.1) (paired_app (dfD_ok hv) ok.1)
/-- f(e, .., k = v, ..): n values written, keywords ks, the lacking keyword-only ones ms -/
theorem de_callN {n : Nat} (is : List Nat) (ms : List (Str × V)) (fd : FdK X.prog X.w X.K X.mg X.base CX k x ps st kws F) (cg : Cg X.A k') (hk : k ≤ k') (hx : PassW CX X W) (hne : kws ≠ []) (hms : ∀ q ∈ ms, q ∈ kws) (hmv : (ms.map (·.2)).all okDf = true)
    (hb : ∀ (D : Addr) (doc pm : Value) (an : Option Addr) (cdv ct : Value) (us mv ws : List Value), us.length = n → mv.length = ms.length → ws.length = ks.length →
      KwChain D ((ms.map (·.1)).zip mv) (bindArgs (PySem.W.fnOf x x (defArgs st) (defBody st) (defScope st) .none (.ref D) doc pm an cdv ct) ⟨us, ks.zip ws⟩) (ps.zip (pick is (us ++ (mv ++ ws)))))
    (hl : ∀ ns : List NV, ns.length = n + (ms.length + ks.length) → (pick is ns).length = ps.length) (hn : (e :: es).length = n) (hkl : kwE.length = ks.length)
    (ha : DA X W (e :: es) fa) (hkw : DK X W kwE fk) (hg : Gl X x := by rfl) (hdb : (x == ("__debug__" : Str)) = false := by decide)
    (hall : (backToKw pos (keywordEach kwE X.env)).all (·.1.isSome) = true := by rfl) (hks : (backToKw pos (keywordEach kwE X.env)).filterMap (·.1) = ks := by rfl)
    (he : starEach (e :: es) X.env = (false, eval e X.env) :: starEach es X.env := by rfl)
    (hpl : ((backTo pos (starEach (e :: es) X.env)).any (·.1) || (backToKw pos (keywordEach kwE X.env)).any (·.1.isNone)) = false := by rfl) :
    DE X W (.Call (.Name x p) (e :: es) kwE pos) (fCall F (fArr is ((ms.map (·.2)).map dfD) fa fk)) := by
  obtain ⟨f, fdat, h1, h2, h4⟩ := fd.ex
  obtain ⟨t, p1, q, ln⟩ := ha
  obtain ⟨tk, p2, q2, ln2⟩ := hkw
  obtain ⟨mv, hb'⟩ := FunD.kbinds0 (ps := ps) h2 n ks ms (fun us mv ws => pick is (us ++ (mv ++ ws))) hne hms (fun r1 r2 r3 => pick_paired (P := RelV) (paired_app r1 (paired_app r2 r3)) is) hb
  rw [hn] at ln
  rw [hkl] at ln2
  have den := den_arr (is := is) hmv ln ln2 q q2
  have lnP : LenA (fArr is ((ms.map (·.2)).map dfD) fa fk) ps.length := fun S ns S' e0 => by
    unfold fArr at e0
    cases e1 : fa S with
    | no => rw [e1] at e0; cases e0
    | ex x S1 => rw [e1] at e0; cases e0
    | ok us S1 =>
      rw [e1, Rs.bind_ok] at e0
      cases e2 : fk S1 with
      | no => rw [e2] at e0; cases e0
      | ex x S1 => rw [e2] at e0; cases e0
      | ok zs S2 =>
        rw [e2, Rs.bind_ok] at e0
        cases e0
        refine hl _ ?_
        rw [List.length_append, List.length_append, List.length_map, List.length_map, List.length_map, ln _ _ _ e1, ln2 _ _ _ e2]
  refine ⟨_, ?_, den_call lnP den⟩
  refine ⟨fun pins s σ H Q I h => ?_⟩
  refine wpAny_Call_Name_kw (ld_glob I hg h1 ?_ hdb)
  refine PySem.W.callWith_KW (h₀ := X.base) I.ok.mod.kin h2.kp hall (thn (p1.run pos pins s σ H _ I h) fun us s1 ⟨vs, H1, I1, r, q1⟩ => ?_) hpl he
  refine thn (p2.run pos pins s1 σ H1 _ I1 q1) fun ws s2 ⟨zs, H2, I2, rz, l1, l2, q3⟩ => ⟨I2.kIn, ?_⟩
  rw [hks]
  have r2 := hb'.rel r rz
  refine wpAny_call (codeAny_mono (h4.go X.A X.stack s2 H2 ⟨us, ks.zip ws⟩ (pick is (us ++ (mv ++ ws))) (pick is (vs ++ (ms.map (·.2) ++ zs))) Q _ (cg.mono hk) I2.env0 (hb'.to s2 us ws I2.kIn (r.length.symm.trans l1) (rz.length.symm.trans l2)) r2 q3) fun res s' hq => ?_)
  cases res with
  | error e => exact hx pins σ H2 s2 e s' I2 hq
  | ok fl =>
    cases fl with
    | ret u => exact I2.after hq
    | next => exact hq.elim
    | brk => exact hq.elim
    | cont => exact hq.elim
/-- f(k = v, ..): the same, all by name -/
theorem de_callN0 (is : List Nat) (ms : List (Str × V)) (fd : FdK X.prog X.w X.K X.mg X.base CX k x ps st kws F) (cg : Cg X.A k') (hk : k ≤ k') (hx : PassW CX X W) (hne : kws ≠ []) (hms : ∀ q ∈ ms, q ∈ kws) (hmv : (ms.map (·.2)).all okDf = true)
    (hb : ∀ (D : Addr) (doc pm : Value) (an : Option Addr) (cdv ct : Value) (us mv ws : List Value), us.length = 0 → mv.length = ms.length → ws.length = ks.length →
      KwChain D ((ms.map (·.1)).zip mv) (bindArgs (PySem.W.fnOf x x (defArgs st) (defBody st) (defScope st) .none (.ref D) doc pm an cdv ct) ⟨us, ks.zip ws⟩) (ps.zip (pick is (us ++ (mv ++ ws)))))
    (hl : ∀ ns : List NV, ns.length = 0 + (ms.length + ks.length) → (pick is ns).length = ps.length) (hkl : kwE.length = ks.length)
    (hkw : DK X W kwE fk) (hg : Gl X x := by rfl) (hdb : (x == ("__debug__" : Str)) = false := by decide)
    (hall : (backToKw pos (keywordEach kwE X.env)).all (·.1.isSome) = true := by rfl) (hks : (backToKw pos (keywordEach kwE X.env)).filterMap (·.1) = ks := by rfl)
    (hpl : ((backTo pos (starEach [] X.env)).any (·.1) || (backToKw pos (keywordEach kwE X.env)).any (·.1.isNone)) = false := by rfl) :
    DE X W (.Call (.Name x p) [] kwE pos) (fCall F (fArr is ((ms.map (·.2)).map dfD) fNil fk)) := by
  obtain ⟨f, fdat, h1, h2, h4⟩ := fd.ex
  obtain ⟨tk, p2, q2, ln2⟩ := hkw
  obtain ⟨mv, hb'⟩ := FunD.kbinds0 (ps := ps) h2 0 ks ms (fun us mv ws => pick is (us ++ (mv ++ ws))) hne hms (fun r1 r2 r3 => pick_paired (P := RelV) (paired_app r1 (paired_app r2 r3)) is) hb
  rw [hkl] at ln2
  have den := den_arr (is := is) (n := 0) (t := tNil) (fa := fNil) hmv (fun S ns S' e => by cases e; rfl) ln2 (fun τ σ S G H s Q hq => hq [] G H (Pst.refl s) .nil) q2
  have lnP : LenA (fArr is ((ms.map (·.2)).map dfD) fNil fk) ps.length := fun S ns S' e0 => by
    unfold fArr at e0
    cases e1 : fNil S with
    | no => rw [e1] at e0; cases e0
    | ex x S1 => rw [e1] at e0; cases e0
    | ok us S1 =>
      rw [e1, Rs.bind_ok] at e0
      cases e2 : fk S1 with
      | no => rw [e2] at e0; cases e0
      | ex x S1 => rw [e2] at e0; cases e0
      | ok zs S2 =>
        rw [e2, Rs.bind_ok] at e0
        cases e0
        refine hl _ ?_
        rw [List.length_append, List.length_append, List.length_map, List.length_map, List.length_map, show us.length = 0 by cases e1; rfl, ln2 _ _ _ e2]
  refine ⟨_, ?_, den_call lnP den⟩
  refine ⟨fun pins s σ H Q I h => ?_⟩
  refine wpAny_Call_Name_kw (ld_glob I hg h1 ?_ hdb)
  refine PySem.W.callWith_KW0 (h₀ := X.base) I.ok.mod.kin h2.kp hall (thn (p2.run pos pins s σ H _ I h) fun ws s2 ⟨zs, H2, I2, rz, l1, l2, q3⟩ => ⟨I2.kIn, ?_⟩) hpl
  rw [hks]
  have r2 := hb'.rel (.nil : Vals [] []) rz
  refine wpAny_call (codeAny_mono (h4.go X.A X.stack s2 H2 ⟨[], ks.zip ws⟩ (pick is ([] ++ (mv ++ ws))) (pick is ([] ++ (ms.map (·.2) ++ zs))) Q _ (cg.mono hk) I2.env0 (hb'.to s2 [] ws I2.kIn rfl (rz.length.symm.trans l2)) r2 q3) fun res s' hq => ?_)
  cases res with
  | error e => exact hx pins σ H2 s2 e s' I2 hq
  | ok fl =>
    cases fl with
    | ret u => exact I2.after hq
    | next => exact hq.elim
    | brk => exact hq.elim
    | cont => exact hq.elim
end
end DL
set_option Elab.async false
set_option linter.all false
set_option maxRecDepth 100000
set_option maxHeartbeats 4000000
/-! DX4: {k: v}; an exception of one's own as a value. -/
namespace DL
open PySem L2
section
variable {X : Cx} {W : WX'} {K : PySem.W.Frag} {ke ve : Expr} {f1 g1 : Sl → Rs NV} {pos : Pos}
/-- a dict of one pair -/
def mk1 (n m : NV) (S : Sl) : Rs RV := match n, m with
  | .f k, .f d => (match keyD k with
    | some q => .ok (.od [q] [d]) S
    | none => .no)
  | _, _ => .no
def fDic1 (f1 g1 : Sl → Rs NV) : Sl → Rs RV := fun S => (f1 S).bind fun n S1 => (g1 S1).bind fun m S2 => mk1 n m S2
theorem de_dic1 (hk : DN X W ke f1) (hv : DN X W ve g1) : DE X W (.Dict [some ke] [ve] pos) (fDic1 f1 g1) := by
  obtain ⟨t1, p1, q1⟩ := hk
  obtain ⟨t2, p2, q2⟩ := hv
  refine ⟨_, pe_disp (pps_cons p1 p2 pps_nil) rfl rfl (by simp) (by show 1 ≤ 15; decide), fun τ σ S G H s Q hq p hp => ?_⟩
  have P0 : Pst X.K τ σ S G H S G (upd H p (.dK [])) := Pst.new s (stp_new hp) (le_new s.le hp)
  unfold fDic1 at hq
  refine q1 τ σ S G (upd H p (.dK [])) P0.sl _ ?_
  cases e1 : f1 S with
  | no => rw [e1] at hq; exact hq.elim
  | ex x S1 => rw [e1] at hq; exact hq.back bkR P0
  | ok n S1 =>
    rw [e1, Rs.bind_ok] at hq
    intro x G1 H1 P1 oa
    refine q2 τ σ S1 G1 H1 P1.sl _ ?_
    cases e2 : g1 S1 with
    | no => rw [e2] at hq; exact hq.elim
    | ex x S2 => rw [e2] at hq; exact (hq.back bkR P0).back bkR P1
    | ok m S2 =>
      rw [e2, Rs.bind_ok] at hq
      intro y G2 H2 P2 ob
      have hgp : G p = none := s.le.free hp
      have now : ¬ Ow σ S p := fun z => (s.owned z).1 hp
      have P02 : Pst X.K τ σ S G (upd H p (.dK [])) S2 G2 H2 := P1.trans P2
      obtain ⟨k1, k2⟩ := P02.st.keep p (by rw [upd_same]; simp) now
      have hp2 : H2 p = some (.dK []) := by rw [k1.own hgp, upd_same]
      have hg2 : G2 p = none := by rw [k2, hgp]
      refine ⟨hp2, ?_⟩
      cases n with
      | bo i => exact hq.elim
      | f k =>
        cases m with
        | bo i => exact hq.elim
        | f d =>
          unfold mk1 at hq
          cases ek : keyD k with
          | none => simp only [ek] at hq; exact hq.elim
          | some q =>
            simp only [ek] at hq
            have rx : R X.K G2 k x := R.mono P2.st.ext _ _ oa
            have ex : x = kV q := keyD_ok ek rx
            refine ⟨[(q, y)], by rw [ex]; rfl, by show 1 ≤ 15; decide, ?_⟩
            have st3 : Stp (fun a => a = p) G2 H2 G2 (upd H2 p (.dK [(q, y)])) := by
              refine ⟨Ext.refl _, fun a _ hn => ⟨.inl (upd_ne hn), rfl⟩, fun a ha => ?_⟩
              by_cases h : a = p
              · rw [h, upd_same]; simp
              · rw [upd_ne h]; exact ha
            have l3 : Le G2 (upd H2 p (.dK [(q, y)])) := fun a u e => by
              have hn : a ≠ p := fun z => by rw [z, hg2] at e; cases e
              rw [upd_ne hn]
              exact P02.sl.le a u e
            have P3 : Pst X.K τ σ S G H S2 G2 (upd H2 p (.dK [(q, y)])) := by
              have A := P0.trans P02
              exact ⟨A.st.trans st3 fun a z => .inr (by rw [z]; exact hp), A.sl.step st3 l3 fun a z e => now (by rw [← e]; exact A.ow a z), A.ow⟩
            refine hq _ G2 _ P3 ⟨⟨p, [(q, y)], rfl, upd_same, hg2, rfl, RL.cons ob RL.nil⟩, fun a e => ?_⟩
            cases e
            exact hp
end
end DL
set_option Elab.async false
set_option linter.all false
set_option maxRecDepth 100000
set_option maxHeartbeats 4000000
/-! DX5: own exception classes whose __init__ calls the own base's and stores one field: made as values. -/
namespace DL
open PySem L2
open PySem.Spec PyProof.Rows
section
variable {X : Cx} {o e : Expr} {es : List Expr} {to te : TE} {ta : TA} {p p' p1 p2 pos : Pos}
theorem pe_binit {b : Str} {B : Addr} {pl : Sem Bool} (hg : Gl X b) (hm : X.mg b = some (.ref B)) (hdb : (b == ("__debug__" : Str)) = false) (bg : PySem.W.specialIn X.K (.ref B) "__getattribute__" = some (some (.builtin "type.__getattribute__"))) (br : PySem.W.readsIn X.K B (.type "type") = true)
    (bi : PySem.W.findCls X.K (.ref B) (.type "type") "__init__" = some (.val (.builtin "ValueError.__init__"))) (ha : PA X (e :: es) ta)
    (hc : eval (.Call (.Attribute (.Name b p1) "__init__" p2) (e :: es) [] pos) X.env = (do
      let ov ← eval (.Name b p1) X.env
      standAt p2.atName
      let (f, first) ← holding [ov] (getMethod ov "__init__" pl)
      callWith pos f first (backTo pos (starEach (e :: es) X.env)) (backToKw pos (keywordEach [] X.env))) := by rfl)
    (he : starEach (e :: es) X.env = (false, eval e X.env) :: starEach es X.env := by rfl) (hpl : (backTo pos (starEach es X.env)).any (·.1) = false := by rfl) :
    PE X (.Call (.Attribute (.Name b p1) "__init__" p2) (e :: es) [] pos) (tVeI X.K ta) := by
  refine ⟨fun pins s σ H Q I h => ?_⟩
  refine PySem.W.methodCall_KW (ld_glob I hg hm ?_ hdb) hc
  refine PySem.W.method_cls I.kIn bg (PySem.W.cls_value I.kIn br bi (by decide +kernel) ?_)
  show wpAny _ _ (callWith pos (Value.builtin "ValueError.__init__") [] (backTo pos (starEach (e :: es) X.env)) []) _ _ _
  refine PyProof.Rows.callWith_method1 (thn (ha.run pos pins _ σ H _ (I.tok _) h) fun us s1 ⟨vs, H1, I1, r1, a, C, ws, ev, hl, T, ea, q⟩ => ?_) he hpl
  subst ev
  cases r1 with
  | @cons _ u0 _ ur ra rw' =>
    obtain rfl : u0 = Value.ref a := ra
    have hlen : ur.length ≤ sizeLine := by
      rw [← Paired.length rw', sizeLine_eq]
      omega
    exact oinit_ok T I1 ea hlen fun s' J => ⟨.non, H1, J, rfl, q⟩
end
/-- an own exception class x over ValueError, below the own class b; one field f -/
structure ExT (K : PySem.W.Frag) (mg : Str → Option Value) (x b f : Str) (st : Stmt) (C B fI : Addr) (fd : FuncData) : Prop where
  gC : mg x = some (.ref C)
  gB : mg b = some (.ref B)
  T : OexC K C
  iC : PySem.W.findIn K (.ref C) "__init__" = some (some (.ref fI))
  tI : PySem.W.typeIn K (.ref fI) = some (.type "function")
  noN : PySem.W.findIn K (.ref C) f = some none
  hdC : PySem.W.hasDictIn K C = true
  ga : PySem.W.findIn K (.ref C) "__getattribute__" = some (some (.builtin "BaseException.__getattribute__"))
  gg : PySem.W.findIn K (.ref C) "__getattr__" = some none
  bg : PySem.W.specialIn K (.ref B) "__getattribute__" = some (some (.builtin "type.__getattribute__"))
  br : PySem.W.readsIn K B (.type "type") = true
  bi : PySem.W.findCls K (.ref B) (.type "type") "__init__" = some (.val (.builtin "ValueError.__init__"))
  fn : L2.Fun K "__init__" (x ++ ".__init__") st fI fd
def spInit (C : Addr) (f : Str) : Sp := fun vs H Q _ => ∃ a v, vs = [.ref a, v] ∧ H a = some (exo a C none) ∧ ∀ d, H d = none → d ≠ a → Q .non (upd (upd H d (exd d [(f, v)])) a (exo a C (some d)))
/-- such an __init__'s body -/
def tIniB (K : PySem.W.Frag) (f m : Str) : TS := tSeq (tDrop (tVeI K (tCons (tVar 0) (tCons (tC (.str m)) tNil)))) (tOst K f (tVar 0) (tVar 1))
variable {P : Program} {w : World} {K : PySem.W.Frag} {mg : Str → Option Value} {base : Heap} {x b f m : Str} {st : Stmt} {C B fI : Addr} {fd : FuncData} {ps : List Str}
theorem ok_init (T : ExT K mg x b f st C B fI fd) (S : FnScope ps ps (defScope st)) (hl : ps.length = 2)
    (hb : ∀ (cdv : Value) (A : Around) (outer : List Env) (s : Shared) (H : Hp) (E : XK), PSs (L2.cxOf (L2.CX P w) P w K mg base ps (x ++ ".__init__") (defScope st) fI cdv A outer s H E) (defBody st) (tIniB K f m)) : FnOk P w K mg base (L2.CX P w) 1 fI fd ps (spInit C f) := by
  refine T.fn.okX S (fun vs H Q E h => ?_) fun cdv A outer s H vs Q E hr h => ⟨_, hb cdv A outer s H E, ?_⟩
  · obtain ⟨a, v, rfl, _⟩ := h
    exact hl.symm
  · obtain ⟨a, v, rfl, ha, hq⟩ := h
    have e0 : (L2.start ps [V.ref a, v])[0]? = some (some (.ref a)) := by unfold L2.start; simp
    have e1 : (L2.start ps [V.ref a, v])[1]? = some (some v) := by unfold L2.start; simp
    refine ⟨_, e0, a, C, _, rfl, by simp, T.T, ha, ?_⟩
    exact ⟨v, e1, _, e0, a, C, rfl, T.T, T.noN, .inl ⟨ha, hq⟩⟩
section
variable {X : Cx} {p pos : Pos} {W : WX'} {a : Expr} {f1 : Sl → Rs NV}
/-- C(e) as a value -/
def fMkX (x f : Str) (f1 : Sl → Rs NV) : Sl → Rs RV := fun S => (f1 S).bind fun n S1 => match n with
  | .f d => .ok (.f (.xob x [f] [d])) S1
  | _ => .no
theorem de_mkX {k : Nat} (T : ExT X.K X.mg x b f st C B fI fd) (XC : XobC X.K C) (xg : PySem.W.nsIn X.K mainGlobals x = some (some (.ref C))) (Fi : FnOk X.prog X.w X.K X.mg X.base (L2.CX X.prog X.w) 1 fI fd ps (spInit C f)) (hbd : Binds X.K fd ps []) (cg : Cg X.A k) (hk : 2 ≤ k) (he : DN X W a f1) (hg : Gl X x := by rfl) (hdb : (x == ("__debug__" : Str)) = false := by decide)
    (hs : starEach [a] X.env = (false, eval a X.env) :: starEach [] X.env := by rfl) (hpl : (backTo pos (starEach [] X.env)).any (·.1) = false := by rfl) : DE X W (.Call (.Name x p) [a] [] pos) (fMkX x f f1) := by
  obtain ⟨te, pe, q⟩ := he
  refine ⟨_, pe_oexV (X := X) (p := p) (pos := pos) (es := []) T.T T.iC T.tI Fi (cg.room.mono hk) hbd .nil (fun _ _ _ _ _ _ _ z => ?_) hg T.gC (pa_cons pe pa_nil hs) hdb hs hpl, fun τ σ S G H s Q hq => ?_⟩
  · obtain ⟨_, _, _, _, _, _, _, _, _, _, _, _, y⟩ := z
    exact y.elim
  · refine Gd.cases (Q1 := fun v H1 => [v].length ≤ 1000 ∧ ∀ a, H1 a = none → spInit C f (.ref a :: ([v] ++ [])) (upd H1 a (exo a C none)) (fun v H2 => v = .non ∧ Q (.ref a) H2) (fun _ _ _ => False)) bkR q s hq fun v n S1 G1 H1 s1 P oa hq1 => ?_
    cases n with
    | bo i => exact hq1.elim
    | f d =>
      refine ⟨by simp, fun aa ha => ⟨aa, v, rfl, upd_same, fun dd hd ne => ⟨rfl, ?_⟩⟩⟩
      rw [upd_ne ne] at hd
      have eH : upd (upd (upd H1 aa (exo aa C none)) dd (exd dd [(f, v)])) aa (exo aa C (some dd)) = upd (upd H1 dd (exd dd [(f, v)])) aa (exo aa C (some dd)) := by
        funext b
        by_cases h1 : b = aa
        · rw [h1, upd_same, upd_same]
        · rw [upd_ne h1, upd_ne h1]
          by_cases h2 : b = dd
          · rw [h2, upd_same, upd_same]
          · rw [upd_ne h2, upd_ne h2, upd_ne h1]
      rw [eH]
      have ha2 : upd H1 dd (exd dd [(f, v)]) aa = none := by rw [upd_ne ne.symm]; exact ha
      have st1 := stp_newF (o := exd dd [(f, v)]) s1.le hd
      have l1 := le_newF (o := exd dd [(f, v)]) s1.le hd
      have st2 := stp_newF (o := exo aa C (some dd)) l1 ha2
      have l2 := le_newF (o := exo aa C (some dd)) l1 ha2
      have st := st1.trans st2 fun _ z => .inl z
      refine hq1 _ _ _ (Pst.new s1 st l2) ⟨?_, fun _ e => nomatch e⟩
      show R X.K _ (.xob x [f] [d]) (.ref aa)
      simp only [R]
      exact ⟨aa, dd, [(f, v)], rfl, ⟨C, xg, XC, upd_same⟩, by rw [upd_ne ne]; exact upd_same, rfl, RL.cons (R.mono st.ext _ _ oa) RL.nil⟩
end
end DL
namespace DL
open PySem L2
open PySem.Spec PyProof.Rows
/-- the i-th statement of a class -/
def clsAt (s : Stmt) (i : Nat) : Stmt := match s with
  | .ClassDef _ _ _ body _ _ _ _ _ _ _ => body.getD i (.Pass ⟨0, 0, 0, 0⟩)
  | _ => .Pass ⟨0, 0, 0, 0⟩
/-- an exception class x of the top (below b, over ValueError), its __init__ st, its field f: made by x(e) -/
structure Xc (K : PySem.W.Frag) (mg : Str → Option Value) (x b f : Str) (st : Stmt) : Prop where
  ex : ∃ (C B fI : Addr) (fd : FuncData), ExT K mg x b f st C B fI fd ∧ XobC K C ∧ PySem.W.nsIn K mainGlobals x = some (some (.ref C))
/-- its __init__ does what it should -/
def XcOk (P : Program) (w : World) (K : PySem.W.Frag) (mg : Str → Option Value) (base : Heap) (x b f : Str) (st : Stmt) (ps : List Str) : Prop :=
  ∀ (C B fI : Addr) (fd : FuncData), ExT K mg x b f st C B fI fd → FnOk P w K mg base (L2.CX P w) 1 fI fd ps (spInit C f) ∧ Binds K fd ps []
theorem de_xc {X : Cx} {p pos : Pos} {W : WX'} {a : Expr} {f1 : Sl → Rs NV} {k : Nat} {x b f : Str} {st : Stmt} {ps : List Str} (T : Xc X.K X.mg x b f st) (O : XcOk X.prog X.w X.K X.mg X.base x b f st ps) (cg : Cg X.A k) (hk : 2 ≤ k) (he : DN X W a f1) (hg : Gl X x := by rfl) (hdb : (x == ("__debug__" : Str)) = false := by decide)
    (hs : starEach [a] X.env = (false, eval a X.env) :: starEach [] X.env := by rfl) (hpl : (backTo pos (starEach [] X.env)).any (·.1) = false := by rfl) : DE X W (.Call (.Name x p) [a] [] pos) (fMkX x f f1) := by
  obtain ⟨C, B, fI, fd, T1, T2, T3⟩ := T.ex
  obtain ⟨o1, o2⟩ := O C B fI fd T1
  exact de_mkX T1 T2 T3 o1 o2 cg hk he hg hdb hs hpl
end DL
set_option Elab.async false
set_option linter.all false
set_option maxRecDepth 100000
set_option maxHeartbeats 4000000
/-! DX6: the facts of an exception class, put together. -/
namespace DL
open PySem L2
open PySem.Spec PyProof.Rows
theorem xc_mk {K : PySem.W.Frag} {mg : Str → Option Value} {x b f ql : Str} {st : Stmt} {C B f1 : Addr} {nm q : Str} {N : Addr} {bs bm : List Value} {sn : List Str} {sub : List Value} {ab : Bool} {col : Option Bool} {dd : Option Addr} {m0 m1 m2 m3 m5 : Option Value}
    {od1 an1 : Option Addr} {sl1 : Array (Option Value)} {oc1 kV1 dc1 pm1 cd1 ct1 : Value} (wd : Wd K mg) (hq : ql = x ++ ".__init__") (nC : PySem.W.nsIn K mainGlobals x = some (some (.ref C))) (nB : PySem.W.nsIn K mainGlobals b = some (some (.ref B)))
    (xL : K.lookup C = some (excClassObj nm q C N bs bm true sn sub ab col dd m0 m1 m2 m3 m5 "ValueError.__new__")) (hbm : PySem.HandSPX.refsVE bm = true)
    (sa : PySem.W.findIn K (.ref C) "__setattr__" = some (some (.builtin "object.__setattr__"))) (ga : PySem.W.findIn K (.ref C) "__getattribute__" = some (some (.builtin "BaseException.__getattribute__"))) (gg : PySem.W.findIn K (.ref C) "__getattr__" = some none) (nb : PySem.W.findIn K (.ref C) f = some none)
    (a1 : PySem.W.findIn K (.ref C) "__init__" = some (some (.ref f1))) (t1 : PySem.W.typeIn K (.ref f1) = some (.type "function"))
    (l1 : K.lookup f1 = some ⟨oc1, od1, .func (PySem.W.fnOf "__init__" ql (defArgs st) (defBody st) (defScope st) .none kV1 dc1 pm1 an1 cd1 ct1), sl1⟩) (c1 : PySem.W.codeIn K cd1 ql = true) (kI : PySem.W.keepIn K (.ref f1) = true)
    (kC : PySem.W.keepIn K (.ref C) = true) (eC : PySem.W.subIn K (.ref C) (.type "BaseException") = some true) (tC : PySem.W.typeIn K (.ref C) = some (.type "type")) (hC : PySem.W.hasDictIn K C = true)
    (bg : PySem.W.specialIn K (.ref B) "__getattribute__" = some (some (.builtin "type.__getattribute__"))) (br : PySem.W.readsIn K B (.type "type") = true) (bi : PySem.W.findCls K (.ref B) (.type "type") "__init__" = some (.val (.builtin "ValueError.__init__")))
    (ca : PySem.W.findIn K (.ref C) "__class__" = some (some (.builtin "object.__class__"))) (cn : PySem.W.specialIn K (.builtin "object.__class__") "__get__" = some (some (.builtin "getset_descriptor.__get__"))) (ck : PySem.W.takesIn K (.builtin "object.__class__") = some true) (cm : PySem.W.mroIn K C (.type "object") = some true)
    (i1 : PySem.W.kitOne K (.ref C) (.type "int") = some false) (i2 : PySem.W.kitOne K (.ref C) (.type "bool") = some false) (i3 : PySem.W.kitOne K (.ref C) (.type "str") = some false) (i4 : PySem.W.kitOne K (.ref C) (.type "list") = some false) (i5 : PySem.W.kitOne K (.ref C) (.type "tuple") = some false) (i6 : PySem.W.kitOne K (.ref C) (.type "dict") = some false) : Xc K mg x b f st := by
  subst hq
  refine ⟨C, B, f1, _, ⟨wd.of nC, wd.of nB, ⟨⟨nm, q, N, bs, bm, sn, sub, ab, col, dd, m0, m1, m2, m3, m5, xL, hbm⟩, sa, eC, tC, kC⟩, a1, t1, nb, hC, ga, gg, bg, br, bi, fun_mk l1 c1 kI⟩, ⟨⟨ga, gg, eC, hC, ca, cn, ck, cm⟩, fun T hT => ?_⟩, nC⟩
  simp only [List.mem_cons, List.mem_nil_iff, or_false] at hT
  rcases hT with rfl | rfl | rfl | rfl | rfl | rfl
  · exact i1
  · exact i2
  · exact i3
  · exact i4
  · exact i5
  · exact i6
end DL
set_option Elab.async false
set_option linter.all false
set_option maxRecDepth 100000
set_option maxHeartbeats 4000000
/-! DL39: x in xs of scalars. -/
namespace DL
open PySem L2
/-! x in xs of scalars -/
def scalV : D → Option V
  | .non => some .non
  | .bl b => some (.bl b)
  | .int i => some (.int i)
  | .str x => some (.str x)
  | _ => none
def scalsV : List D → Option (List V)
  | [] => some []
  | d :: ds => (scalV d).bind fun v => (scalsV ds).map (v :: ·)
def oInF (neg : Bool) (d e : D) : Option RV := match e with
  | .lst ds => (scalV d).bind fun v => (scalsV ds).map fun vs => .f (.bl (if neg = true then !inV v vs else inV v vs))
  | .tup ds => (scalV d).bind fun v => (scalsV ds).map fun vs => .f (.bl (if neg = true then !inV v vs else inV v vs))
  | _ => none
section
variable {X : Cx} {W : WX'} {K : PySem.W.Frag} {a b : Expr} {pos : Pos} {f1 g1 : Sl → Rs NV}
theorem scalV_ok {d : D} {v v' : V} (e : scalV d = some v) (r : R K G d v') : v' = v ∧ flatV v = true := by
  cases d <;> simp only [scalV] at e <;> cases e <;> exact ⟨r, rfl⟩
theorem scalsV_ok : ∀ {ds : List D} {vs vs' : List V}, scalsV ds = some vs → RL K G ds vs' → vs' = vs ∧ vs.all flatV = true
  | [], vs, vs', e, r => by
    cases e
    simp only [RL, R.RL] at r
    exact ⟨r, rfl⟩
  | d :: ds, vs, vs', e, r => by
    simp only [RL, R.RL] at r
    obtain ⟨v, vr, rfl, r1, r2⟩ := r
    simp only [scalsV] at e
    cases e1 : scalV d with
    | none => rw [e1] at e; cases e
    | some w =>
      cases e2 : scalsV ds with
      | none => rw [e1, e2] at e; cases e
      | some ws =>
        rw [e1, e2] at e
        cases e
        obtain ⟨rfl, h1⟩ := scalV_ok e1 r1
        obtain ⟨rfl, h2⟩ := scalsV_ok e2 r2
        exact ⟨rfl, by simp only [List.all_cons, h1, h2, Bool.and_self]⟩
theorem oo_inF (neg : Bool) : OpOk K (rIn K neg) (oInF neg) := by
  intro G H x y d e o l hx hy ho Q hQ
  have key : ∀ {ds : List D} {p : Addr} {vs : List V}, y = .ref p → (SqL K H p vs ∨ SqT K H p vs) → RL K G ds vs → ((scalV d).bind fun v => (scalsV ds).map fun vs => RV.f (.bl (if neg = true then !inV v vs else inV v vs))) = some o → rIn K neg x y H Q := by
    intro ds p vs ey hp r ho
    cases e1 : scalV d with
    | none => rw [e1] at ho; cases ho
    | some w =>
      cases e2 : scalsV ds with
      | none => rw [e1, e2] at ho; cases ho
      | some ws =>
        rw [e1, e2] at ho
        cases ho
        obtain ⟨rfl, h2⟩ := scalsV_ok e2 r
        have hx1 : x = w ∧ flatV w = true := by
          cases hx with
          | f h => exact scalV_ok e1 h
          | ol _ _ => simp [scalV] at e1
          | od _ _ _ => simp [scalV] at e1
        obtain ⟨rfl, h1⟩ := hx1
        exact ⟨p, vs, ey, hp, h1, h2, ok_val (d := .bl _) l rfl hQ⟩
  unfold oInF at ho
  split at ho
  · obtain ⟨p, vs, ey, h1, h2⟩ := hy.lst l
    exact key ey (.inl (SqL.of h1)) h2 ho
  · obtain ⟨p, vs, ey, h1, h2⟩ := hy.tup l
    exact key ey (.inr h1) h2 ho
  · cases ho
theorem de_inF (ha : DN X W a f1) (hb : DN X W b g1) (hm : behindInMarks .In b = false := by rfl) : DE X W (.Compare a [.In] [b] pos) (fOp (oInF false) f1 g1) := de_cmp op_in_seq (oo_inF false) ha hb hm
theorem de_notInF (ha : DN X W a f1) (hb : DN X W b g1) (hm : behindInMarks .NotIn b = false := by rfl) : DE X W (.Compare a [.NotIn] [b] pos) (fOp (oInF true) f1 g1) := de_cmp op_notIn_seq (oo_inF true) ha hb hm
theorem dt_inF (ha : DN X W a f1) (hb : DN X W b g1) (hm : behindInMarks .In b = false := by rfl) : DT X W (.Compare a [.In] [b] pos) (fB (frz (fOp (oInF false) f1 g1))) := dt_cmp op_in_seq (oo_inF false) ha hb hm
theorem dt_notInF (ha : DN X W a f1) (hb : DN X W b g1) (hm : behindInMarks .NotIn b = false := by rfl) : DT X W (.Compare a [.NotIn] [b] pos) (fB (frz (fOp (oInF true) f1 g1))) := dt_cmp op_notIn_seq (oo_inF true) ha hb hm
end
end DL
set_option Elab.async false
set_option linter.all false
set_option maxRecDepth 100000
set_option maxHeartbeats 4000000
/-! DX7: a test that looks at an own list as data: the list is still the slot's own behind it. -/
namespace DL
open PySem L2
/-- no slot but j owns anything -/
def plainBut : Nat → Sl → Bool
  | _, [] => true
  | 0, _ :: S => S.all fun sv => match sv with | .f _ => true | .u => true | _ => false
  | j + 1, sv :: S => (match sv with | .f _ => true | .u => true | _ => false) && plainBut j S
def fThawB (j : Nat) (fb : Sl → Rs Bool) : Sl → Rs Bool := fun S => match S[j]? with
  | some (.ol none ds) => if plainBut j S = true then (match fb (S.set j (.f (.lst ds))) with
    | .ok b _ => .ok b S
    | _ => .no) else .no
  | _ => .no
theorem plain_at : ∀ {j : Nat} {S : Sl} {i : Nat} {sv : SV}, plainBut j S = true → i ≠ j → S[i]? = some sv → (∃ d, sv = .f d) ∨ sv = .u
  | _, [], i, sv, _, _, e => by simp at e
  | 0, s :: S, 0, sv, _, n, _ => absurd rfl n
  | 0, s :: S, i + 1, sv, h, _, e => by
    simp only [plainBut, List.all_eq_true] at h
    have := h sv (List.mem_of_getElem? (by simpa using e))
    cases sv with
    | u => exact .inr rfl
    | f d => exact .inl ⟨d, rfl⟩
    | ol t ds => cases this
    | od t ks ds => cases this
  | j + 1, s :: S, 0, sv, h, _, e => by
    simp only [plainBut, Bool.and_eq_true] at h
    have e' : s = sv := by simpa using e
    subst e'
    cases s with
    | u => exact .inr rfl
    | f d => exact .inl ⟨d, rfl⟩
    | ol t ds => cases h.1
    | od t ks ds => cases h.1
  | j + 1, s :: S, i + 1, sv, h, n, e => by
    simp only [plainBut, Bool.and_eq_true] at h
    exact plain_at (i := i) (j := j) h.2 (fun z : i = j => n (by rw [z])) (by simpa using e)
section
variable {X : Cx} {W : WX'} {K : PySem.W.Frag} {e : Expr} {fb : Sl → Rs Bool}
theorem den_thaw {t : St → Hp → (Bool → Hp → Prop) → Prop} (j : Nat) (q : Dn okB K W t fb) : Dn okB K W t (fThawB j fb) := by
  intro τ σ S G H s Q hq
  unfold fThawB at hq
  cases ej : S[j]? with
  | none => simp only [ej] at hq; exact hq.elim
  | some sv =>
    cases sv with
    | u => simp only [ej] at hq; exact hq.elim
    | f d => simp only [ej] at hq; exact hq.elim
    | od t ks ds => simp only [ej] at hq; exact hq.elim
    | ol t0 ds =>
      cases t0 with
      | some k => simp only [ej] at hq; exact hq.elim
      | none =>
        by_cases hp : plainBut j S = true
        · simp only [ej, if_pos hp] at hq
          obtain ⟨p, vs, h1, h2, h3, h4, h5, ow⟩ := ow_at s ej
          have hH : H p ≠ none := by rw [h2]; simp
          have ext : Ext G (upd G p (.lst vs)) := fun a o z => by
            by_cases hb : a = p
            · rw [hb, h3] at z; cases z
            · rw [upd_ne hb]; exact z
          have l' : Le (upd G p (.lst vs)) H := fun a o z => by
            by_cases hb : a = p
            · rw [hb, upd_same] at z
              cases z
              exact .inl (by rw [hb]; exact h2)
            · rw [upd_ne hb] at z
              exact s.le a o z
          have noOw : ∀ a, ¬ Ow σ (S.set j (.f (.lst ds))) a := fun a ⟨i, sv, z1, z2⟩ => by
            rcases getElem?_set_of z1 with ⟨_, z⟩ | ⟨ne, z⟩
            · subst z; cases z2
            · rcases plain_at hp ne z with ⟨d, rfl⟩ | rfl <;> cases z2
          have s' : SlOk K τ (upd G p (.lst vs)) H σ (S.set j (.f (.lst ds))) := by
            refine ⟨by rw [List.length_set]; exact s.len, l', fun i sv z => ?_, fun a b q z1 _ => absurd ⟨a, z1⟩ (noOw q)⟩
            rcases getElem?_set_of z with ⟨z1, z2⟩ | ⟨ne, z2⟩
            · subst z1 z2
              refine ⟨.ref p, h1, ?_⟩
              simp only [R]
              exact ⟨p, vs, rfl, upd_same, RL.mono ext _ _ h4⟩
            · have o := s.ok i sv z2
              rcases plain_at hp ne z2 with ⟨d, rfl⟩ | rfl
              · obtain ⟨v, o1, o2⟩ := o
                exact ⟨v, o1, R.mono ext _ _ o2⟩
              · exact o
          refine q τ σ _ _ H s' Q ?_
          cases ef : fb (S.set j (.f (.lst ds))) with
          | no => simp only [ef] at hq; exact hq
          | ex x S1 => simp only [ef] at hq; exact hq.elim
          | ok b S1 =>
            simp only [ef] at hq
            intro v G1 H1 P o
            have kp : ∀ a, H a ≠ none → Kp (upd G p (.lst vs)) H H1 a := fun a ha => (P.st.keep a ha (noOw a)).1
            have hp1 : H1 p = some (.lst vs) := by
              rcases kp p hH with z | ⟨ws, ob, z1, _, _⟩
              · rw [z, h2]
              · rw [upd_same] at z1; cases z1
            have lG : Le G H1 := fun a o z => P.sl.le a o (P.st.ext a o (ext a o z))
            refine hq v G H1 ⟨⟨Ext.refl _, fun a ha hn => ⟨?_, rfl⟩, P.st.stay⟩, ⟨s.len, lG, fun i sv z => ?_, s.ap⟩, fun _ z => z⟩ o
            · rcases kp a ha with z | ⟨ws, ob, z1, z2, z3⟩
              · exact .inl z
              · by_cases hb : a = p
                · rw [hb, upd_same] at z1; cases z1
                · rw [upd_ne hb] at z1
                  exact .inr ⟨ws, ob, z1, z2, z3⟩
            · have o2 := s.ok i sv z
              by_cases hi : i = j
              · subst hi
                rw [ej] at z
                cases z
                exact ⟨p, vs, h1, hp1, h3, h4, h5⟩
              · rcases plain_at hp hi z with ⟨d, rfl⟩ | rfl
                · exact o2
                · exact o2
        · simp only [ej, if_neg hp] at hq
          exact hq.elim
theorem dt_thaw (j : Nat) (h : DT X W e fb) : DT X W e (fThawB j fb) := let ⟨t, p, q⟩ := h; ⟨t, p, den_thaw j q⟩
theorem wp_thaw {j : Nat} {S : Sl} {ds : List D} {P : Bool → Sl → Prop} (h1 : S[j]? = some (.ol none ds)) (h2 : plainBut j S = true) (h : wp (fb (S.set j (.f (.lst ds)))) fun b _ => P b S) : wp (fThawB j fb S) P := by
  unfold fThawB
  simp only [h1, if_pos h2]
  cases e : fb (S.set j (.f (.lst ds))) with
  | ok b S1 => rw [e] at h; exact h
  | ex x S1 => rw [e] at h; exact h.elim
  | no => rw [e] at h; exact h.elim
end
end DL
set_option Elab.async false
set_option linter.all false
set_option maxRecDepth 100000
/-! PT12: texts of digits, in plain Lean. -/
namespace DL
open PySem L2
open PySem.NumText (AllDigits digitsVal)
open TL (numL numL_lt numL_step numL_digits numL_ne numL_val tl)
theorem val_snoc (l : List Nat) (c : Nat) : digitsVal (l ++ [c]) = digitsVal l * 10 + (c - 48) := by
  unfold digitsVal
  rw [List.foldl_append]
  rfl
theorem digs_snoc {l : List Nat} {c : Nat} (h : AllDigits (l ++ [c])) : AllDigits l ∧ 48 ≤ c ∧ c ≤ 57 :=
  ⟨fun x hx => h x (List.mem_append_left _ hx), h c (by simp)⟩
/-- the number's own text is the text: no leading 0 -/
theorem num_back : ∀ (n : Nat) (l : List Nat), l.length = n → AllDigits l → l ≠ [] → (numL (digitsVal l) = l ↔ (l.head? ≠ some 48 ∨ l.length = 1)) := by
  intro n
  induction n with
  | zero => intro l hl _ hn; exact absurd (List.length_eq_zero_iff.mp hl) hn
  | succ n ih =>
    intro l hl h hn
    rcases List.eq_nil_or_concat l with rfl | ⟨r, c, rfl⟩
    · exact absurd rfl hn
    · rw [List.concat_eq_append] at *
      obtain ⟨hr, c1, c2⟩ := digs_snoc h
      rw [val_snoc]
      by_cases hr0 : r = []
      · subst hr0
        have e : digitsVal [] * 10 + (c - 48) = c - 48 := by
          show 0 * 10 + (c - 48) = _
          omega
        rw [e, numL_lt (by omega)]
        simp
        omega
      · have hlr : r.length = n := by simpa using hl
        have hlen : ¬ (r ++ [c]).length = 1 := by
          have := List.length_pos_iff.mpr hr0
          simp
          exact hr0
        have hh : (r ++ [c]).head? = r.head? := by
          cases r with
          | nil => exact absurd rfl hr0
          | cons a b => rfl
        have I := ih r hlr hr hr0
        by_cases hv : digitsVal r = 0
        · rw [hv]
          have e : 0 * 10 + (c - 48) = c - 48 := by omega
          rw [e, numL_lt (by omega)]
          constructor
          · intro z
            have := congrArg List.length z
            have h2 := List.length_pos_iff.mpr hr0
            simp at this
            exact absurd this hr0
          · intro z
            exfalso
            rcases z with z | z
            · rw [hh] at z
              rw [hv, numL_lt (by decide)] at I
              have i2 := I.mpr (.inl z)
              rw [← i2] at z
              exact z rfl
            · exact hlen z
        · rw [numL_step (by omega), show (digitsVal r * 10 + (c - 48)) / 10 = digitsVal r by omega, show 48 + (digitsVal r * 10 + (c - 48)) % 10 = c by omega]
          constructor
          · intro z
            have z2 := List.append_cancel_right z
            rcases I.mp z2 with q | q
            · exact .inl (by rw [hh]; exact q)
            · left
              rw [hh]
              intro w
              match r, q, w with
              | [a], _, w =>
                cases w
                exact hv rfl
          · intro z
            rcases z with z | z
            · rw [I.mpr (.inl (by rw [← hh]; exact z))]
            · exact absurd z hlen
end DL
set_option Elab.async false
set_option linter.all false
set_option maxRecDepth 100000
/-! PT13: texts parted at one sign, in plain Lean. -/
namespace DL
open PySem L2 PySem.StrLaws
open TL (tl)
theorem count_pos {x : Str} {c : Nat} : 0 < Txt.count x (sgn c) ↔ c ∈ tl x := by
  obtain ⟨f, g, hn⟩ := occ_tight x (sgn c) (Nat.le_refl 1)
  have at1 : ∀ i, At x (sgn c) x.length i ↔ x.cps.toList[i]? = some c := fun i => subAt_one x c i
  unfold Txt.count
  cases e : Builtin.Str.occurrences x (sgn c) 0 x.length (x.length + 1) with
  | nil =>
    rw [e] at g
    have f0 : f = 0 := g
    constructor
    · intro h; simp at h
    · intro h
      obtain ⟨i, hi⟩ := List.getElem?_of_mem h
      exact absurd ((at1 i).mpr hi) (hn i (by omega))
  | cons i r =>
    rw [e] at g
    exact ⟨fun _ => List.mem_of_getElem? ((at1 i).mp g.2.1), fun _ => by simp⟩
/-- the words between the signs s, acc the one begun -/
def wordsL (s : Nat) : List Nat → List Nat → List (List Nat)
  | acc, [] => [acc]
  | acc, c :: r => if c = s then acc :: wordsL s [] r else wordsL s (acc ++ [c]) r
theorem spl_words {s : Nat} : ∀ (l acc : List Nat), TL.spl [s] 0 acc l = wordsL s acc l
  | [], acc => rfl
  | c :: r, acc => by
    have hp : TL.pre [s] (c :: r) = decide (c = s) := by
      unfold TL.pre
      rw [Bool.eq_iff_iff]
      simp
    by_cases h : c = s
    · rw [TL.spl_hit (by rw [hp, decide_eq_true h])]
      show acc :: TL.spl [s] 0 [] r = _
      rw [spl_words r []]
      show _ = if c = s then _ else _
      rw [if_pos h]
    · rw [TL.spl_miss (by rw [hp, decide_eq_false h]), spl_words r (acc ++ [c])]
      show _ = if c = s then _ else _
      rw [if_neg h]
def mkS (l : List Nat) : Str := ⟨l.toArray⟩
theorem tl_mkS {l : List Nat} : tl (mkS l) = l := rfl
theorem mkS_tl {x : Str} : mkS (tl x) = x := TL.mk_tl x
theorem split_words {x : Str} {s : Nat} (hs : s < 256) : Txt.split x (sgn s) = (wordsL s [] (tl x)).map mkS := by
  refine TL.map_tl_inj ?_
  rw [TL.split_spl x (sgn s) (by show [s] ≠ []; simp) (TL.kind_ok (by simp [sgn]; exact hs))]
  show TL.spl [s] 0 [] (tl x) = _
  rw [spl_words, List.map_map]
  rw [show (tl ∘ mkS) = id from rfl, List.map_id]
/-- the words of a text, or none -/
def splW (s : Nat) (x : Str) : Option (List (List Nat)) := if 10 ∈ tl x ∨ [] ∈ wordsL s [] (tl x) then none else some (wordsL s [] (tl x))
/-- what the law's own loop does: all but the last word closed -/
theorem words_snoc {s : Nat} : ∀ (l acc : List Nat), ∃ ws w, wordsL s acc l = ws ++ [w]
  | [], acc => ⟨[], acc, rfl⟩
  | c :: r, acc => by
    by_cases h : c = s
    · obtain ⟨ws, w, e⟩ := words_snoc r []
      exact ⟨acc :: ws, w, by unfold wordsL; rw [if_pos h, e]; rfl⟩
    · obtain ⟨ws, w, e⟩ := words_snoc r (acc ++ [c])
      exact ⟨ws, w, by unfold wordsL; rw [if_neg h, e]⟩
end DL
set_option Elab.async false
set_option linter.all false
set_option maxRecDepth 100000
set_option maxHeartbeats 4000000
/-! DX8: a text times a number; repr of any data. -/
namespace DL
open PySem L2
open PySem.Spec PyProof.Rows
open TL (tl)
/-- x n times -/
def repS (n : Nat) (x : Str) : Str := mkS (List.replicate n (tl x)).flatten
theorem foldl_cat (l : List (Array Nat)) (a : Array Nat) : (l.foldl (· ++ ·) a).toList = a.toList ++ (l.map Array.toList).flatten := by
  induction l generalizing a with
  | nil => simp
  | cons b l ih => rw [List.foldl_cons, ih]; simp
theorem repS_fold {n : Nat} {x : Str} : (⟨(List.replicate n x.cps).foldl (· ++ ·) #[]⟩ : Str) = repS n x := by
  refine TL.ext_tl ?_
  show (Array.toList _) = _
  rw [foldl_cat, List.map_replicate]
  rfl
theorem repS_one {x : Str} : repS 1 x = x := TL.ext_tl (by show (List.replicate 1 (tl x)).flatten = _; simp)
theorem repS_nil {n : Nat} {x : Str} (h : x.length = 0) : repS n x = x := TL.ext_tl (by
  have e : tl x = [] := List.length_eq_zero_iff.mp (by rw [← TL.len_tl]; exact h)
  show (List.replicate n (tl x)).flatten = tl x
  rw [e]
  simp)
section
variable {X : Cx} {W : WX'} {K : PySem.W.Frag} {a b e : Expr} {fa : Sl → Rs (List NV)} {f1 g1 : Sl → Rs NV} {pos : Pos}
def rMulS : R2 := fun x y H Q => ∃ (z : Str) (n : Int), x = .str z ∧ y = .int n ∧ 0 ≤ n ∧ n ≤ 100000 ∧ z.length * n.toNat ≤ 100000 ∧ Q (.str (repS n.toNat z)) H
theorem op_mulS : OpR X (binaryOp .Mult) rMulS := by
  intro pins s σ H x y v u Q I rx ry h
  obtain ⟨z, n, rfl, rfl, h0, h1, h2, q⟩ := h
  obtain ⟨t, rfl⟩ := rx
  obtain ⟨t', rfl⟩ := ry
  refine PySem.P.mul_str (by rw [decide_eq_false (by omega), decide_eq_false (by omega)]; rfl) (fun hn _ => ?_) (fun _ _ => ?_) ?_
  · intro z1
    have hp : 0 < n := by omega
    have hm : (z.length : Int) * n ≤ 2 ^ 63 - 1 := by
      have e : n = ((n.toNat : Nat) : Int) := (Int.toNat_of_nonneg h0).symm
      rw [e]
      have : ((z.length * n.toNat : Nat) : Int) ≤ 100000 := Int.ofNat_le.mpr h2
      rw [Int.natCast_mul] at this
      omega
    have := Int.le_ediv_of_mul_le hp hm
    omega
  · unfold PySem.Builtin.Str.tooLong
    exact decide_eq_false (Nat.not_lt.mpr (Nat.le_trans h2 (by decide)))
  · have hlen : (repS n.toNat z).length = z.length * n.toNat := by
      rw [TL.len_tl]
      show (List.replicate n.toNat (tl z)).flatten.length = _
      rw [List.length_flatten, List.map_replicate, List.sum_replicate_nat, ← TL.len_tl, Nat.mul_comm]
    have hsz : (repS n.toNat z).length ≤ sizeLine := by rw [hlen]; exact Nat.le_trans h2 (by decide)
    by_cases c1 : n < 1
    · rw [if_pos c1]
      have e : n = 0 := by omega
      subst e
      exact ⟨by decide, .str (repS 0 z), H, I.tok _, ⟨_, rfl⟩, q⟩
    · rw [if_neg c1]
      by_cases c2 : (n == 1 || z.length == 0) = true
      · rw [if_pos c2]
        have e : repS n.toNat z = z := by
          rcases Bool.or_eq_true_iff.mp c2 with c | c
          · have : n = 1 := by simpa using c
            subst this
            exact repS_one
          · exact repS_nil (by simpa using c)
        rw [e] at q
        exact ⟨.str z, H, I, ⟨t, rfl⟩, q⟩
      · rw [if_neg c2, repS_fold]
        exact ⟨hsz, .str (repS n.toNat z), H, I.tok _, ⟨_, rfl⟩, q⟩
def oRepS (d e : D) : Option RV := match d, e with
  | .str x, .int n => if 0 ≤ n ∧ n ≤ 100000 ∧ x.length * n.toNat ≤ 100000 then some (.f (.str (repS n.toNat x))) else none
  | _, _ => none
theorem oo_repS : OpOk K rMulS oRepS := by
  intro G H x y d e o l hx hy ho Q hQ
  unfold oRepS at ho
  split at ho
  · rename_i u n
    by_cases h : 0 ≤ n ∧ n ≤ 100000 ∧ u.length * n.toNat ≤ 100000
    · rw [if_pos h] at ho
      cases ho
      cases hx.str
      cases hy.int
      exact ⟨u, n, rfl, rfl, h.1, h.2.1, h.2.2, ok_val (d := .str _) l rfl hQ⟩
    · rw [if_neg h] at ho
      cases ho
  · cases ho
theorem de_timesS (ha : DN X W a f1) (hb : DN X W b g1) : DE X W (.BinOp a .Mult b pos) (fOp oRepS f1 g1) := de_op op_mulS oo_repS ha hb
end
end DL
set_option Elab.async false
set_option linter.all false
set_option maxRecDepth 100000
set_option maxHeartbeats 4000000
/-! DX9: repr of any data (also of a scalar), ints of up to forty digits. -/
namespace DL
open PySem L2
mutual
def rokA : D → Bool
  | .non => true
  | .bl _ => true
  | .int i => decide (0 ≤ i ∧ i < 10 ^ 40)
  | .str x => x.cps.toList.all fun c => decide (c < 16 ^ 8)
  | .lst ds => rokAL ds
  | .tup ds => rokAL ds
  | _ => false
def rokAL : List D → Bool
  | [] => true
  | d :: ds => rokA d && rokAL ds
end
mutual
def wA : D → Nat
  | .int _ => 140
  | .str x => x.length
  | .lst ds => wAL ds
  | .tup ds => wAL ds
  | _ => 0
def wAL : List D → Nat
  | [] => 0
  | d :: ds => wA d + 1 + wAL ds
end
theorem intA_log {i : Int} (h : 0 ≤ i ∧ i < 10 ^ 40) : i.natAbs.log2 < 139 := by
  have h1 : i.natAbs < 2 ^ 139 := by
    have : (10 : Int) ^ 40 = ((10 ^ 40 : Nat) : Int) := by decide
    have e2 : (10 : Nat) ^ 25 < 2 ^ 139 := by decide
    omega
  by_cases h0 : i.natAbs = 0
  · rw [h0]; decide
  · exact (Nat.log2_lt h0).mpr h1
theorem intA_short {i : Int} (h : 0 ≤ i ∧ i < 10 ^ 40) : (PyData.shown (.int i)).length ≤ 45 := by
  simp only [PyData.shown]
  exact Nat.le_trans (PyProof.Rows.toString_length_le h.1 (k := 40) (by decide) h.2) (by decide)
mutual
theorem rokA_py : ∀ d : D, rokA d = true → py d = some (pyd d) ∧ (pyd d).showable = true ∧ (pyd d).hasDict = false ∧ (pyd d).leavesShort 45 = true ∧ (pyd d).depth ≤ dep d ∧ (pyd d).weight ≤ wA d
  | .non, _ => ⟨by simp only [py, pyd], by simp only [pyd, PyData.showable], by simp only [pyd, PyData.hasDict], by simp only [pyd, PyData.leavesShort], by simp [pyd, PyData.depth], by simp [pyd, PyData.weight]⟩
  | .bl b, _ => ⟨by simp only [py, pyd], by simp only [pyd, PyData.showable], by simp only [pyd, PyData.hasDict], by simp only [pyd, PyData.leavesShort], by simp [pyd, PyData.depth], by simp [pyd, PyData.weight]⟩
  | .int i, h => by
    simp only [rokA, decide_eq_true_eq] at h
    have l1 := intA_log h
    have l2 := intA_short h
    refine ⟨by simp only [py, pyd], by simp only [pyd, PyData.showable, decide_eq_true_eq]; omega, by simp only [pyd, PyData.hasDict], by simp only [pyd, PyData.leavesShort, decide_eq_true_eq]; exact l2, by simp [pyd, PyData.depth], ?_⟩
    simp only [pyd, PyData.weight, wA]
    split <;> omega
  | .str x, h => by
    simp only [rokA] at h
    exact ⟨by simp only [py, pyd], by simp only [pyd, PyData.showable], by simp only [pyd, PyData.hasDict], by simp only [pyd, PyData.leavesShort]; exact h, by simp [pyd, PyData.depth], by simp only [pyd, PyData.weight, wA]; exact Nat.le_refl _⟩
  | .lst ds, h => by
    simp only [rokA] at h
    obtain ⟨h1, h2, h3, h4, h5, h6⟩ := rokA_pyL ds h
    exact ⟨by simp only [py, pyd, h1, Option.map_some], by simp only [pyd, PyData.showable, h2], by simp only [pyd, PyData.hasDict, h3], by simp only [pyd, PyData.leavesShort, h4], by simp only [pyd, PyData.depth, dep]; omega, by simp only [pyd, PyData.weight, wA]; exact h6⟩
  | .tup ds, h => by
    simp only [rokA] at h
    obtain ⟨h1, h2, h3, h4, h5, h6⟩ := rokA_pyL ds h
    exact ⟨by simp only [py, pyd, h1, Option.map_some], by simp only [pyd, PyData.showable, h2], by simp only [pyd, PyData.hasDict, h3], by simp only [pyd, PyData.leavesShort, h4], by simp only [pyd, PyData.depth, dep]; omega, by simp only [pyd, PyData.weight, wA]; exact h6⟩
  | .ref _, h | .ty _, h | .dic _ _, h | .ins _ _ _, h | .scr _, h | .xob _ _ _, h => by simp [rokA] at h
theorem rokA_pyL : ∀ ds : List D, rokAL ds = true → pyL ds = some (pydL ds) ∧ PyData.showableAll (pydL ds) = true ∧ PyData.hasDictAll (pydL ds) = false ∧ PyData.leavesShortAll 45 (pydL ds) = true ∧ PyData.depthAll (pydL ds) ≤ depL ds ∧ PyData.weightAll (pydL ds) ≤ wAL ds
  | [], _ => ⟨by simp only [pyL, pydL], by simp only [pydL, PyData.showableAll], by simp only [pydL, PyData.hasDictAll], by simp only [pydL, PyData.leavesShortAll], by simp [pydL, PyData.depthAll], by simp [pydL, PyData.weightAll]⟩
  | d :: ds, h => by
    simp only [rokAL, Bool.and_eq_true] at h
    obtain ⟨g1, g2, g3, g4, g5, g6⟩ := rokA_py d h.1
    obtain ⟨h1, h2, h3, h4, h5, h6⟩ := rokA_pyL ds h.2
    refine ⟨by simp only [pyL, pydL, g1, h1, Option.bind_some, Option.map_some], by simp only [pydL, PyData.showableAll, g2, h2, Bool.and_self], by simp only [pydL, PyData.hasDictAll, g3, h3, Bool.or_self], by simp only [pydL, PyData.leavesShortAll, g4, h4, Bool.and_self], ?_, ?_⟩
    · simp only [pydL, PyData.depthAll, depL]; omega
    · simp only [pydL, PyData.weightAll, wAL]; omega
end
def okShA (d : D) : Bool := rokA d && decide (dep d ≤ 60) && decide (wA d ≤ 300000)
theorem okShA_len {d : D} (h : okShA d = true) : (pyd d).showable = true ∧ (pyd d).hasDict = false ∧ (pyd d).depth ≤ 60 ∧ (pyd d).shown.length ≤ sizeLine ∧ py d = some (pyd d) := by
  unfold okShA at h
  simp only [Bool.and_eq_true, decide_eq_true_eq] at h
  obtain ⟨h1, h2, h3, h4, h5, h6⟩ := rokA_py d h.1.1
  have := PyData.shown_le 45 (by decide) _ h4
  exact ⟨h2, h3, by omega, by rw [sizeLine_eq]; omega, h1⟩
section
variable {X : Cx} {W : WX'} {K : PySem.W.Frag} {e : Expr} {fa : Sl → Rs (List NV)} {pos : Pos}
def rReprA (K : PySem.W.Frag) : List V → Hp → VK → Prop := fun xs H Q => rRepr K xs H Q ∨ (xs = [.non] ∧ Q (.str "None") H) ∨ (∃ i, xs = [.int i] ∧ i.natAbs.log2 < 1920 ∧ Q (.str (toString i)) H) ∨ ∃ b, xs = [.bl b] ∧ Q (.str (if b then "True" else "False")) H
theorem call_reprN : CallR X (.builtin "repr") (fun xs H Q => xs = [.non] ∧ Q (.str "None") H) := by
  intro pins s σ H xs us Q I r h
  obtain ⟨rfl, q⟩ := h
  obtain ⟨u, rfl, rx⟩ := vals1 r
  cases rx
  exact PySem.P.repr_of_none ⟨.str "None", H, I.tok _, ⟨_, rfl⟩, q⟩
theorem call_reprB : CallR X (.builtin "repr") (fun xs H Q => ∃ b, xs = [.bl b] ∧ Q (.str (if b then "True" else "False")) H) := by
  intro pins s σ H xs us Q I r h
  obtain ⟨b, rfl, q⟩ := h
  obtain ⟨u, rfl, rx⟩ := vals1 r
  cases rx
  exact PySem.P.repr_of_bool ⟨.str (if b then "True" else "False"), H, I.tok _, ⟨_, rfl⟩, q⟩
theorem call_reprA {k : Nat} (cg : Cg X.A k) : CallR X (.builtin "repr") (rReprA X.K) := fun pins s σ H xs us Q I r h => h.elim (call_repr cg pins s σ H xs us Q I r) fun h => h.elim (call_reprN pins s σ H xs us Q I r) fun h => h.elim (SkE.call_repr_int pins s σ H xs us Q I r) (call_reprB pins s σ H xs us Q I r)
def scD : D → Bool
  | .non => true
  | .bl _ => true
  | .int _ => true
  | .lst _ => true
  | .tup _ => true
  | _ => false
def cReprA : List D → Option RV
  | [d] => if okShA d = true ∧ scD d = true then some (.f (.str (rp d))) else none
  | _ => none
theorem co_reprA : CallOk K (rReprA K) cReprA := by
  intro G H xs ds o l hx ho Q hQ
  unfold cReprA at ho
  split at ho
  · rename_i d
    by_cases hk : okShA d = true ∧ scD d = true
    · rw [if_pos hk] at ho
      cases ho
      obtain ⟨h1, h2, h3, h4, h5⟩ := okShA_len hk.1
      cases hx with
      | cons r t =>
        cases t
        have dp := dpx_of l r h5
        have fin := ok_val (d := .str (rp d)) l rfl hQ
        cases d <;> first | (cases hk.2; done) | skip
        · cases r.non
          exact .inr (.inl ⟨rfl, fin⟩)
        · rename_i b
          cases r.bl
          exact .inr (.inr (.inr ⟨b, rfl, by cases b <;> exact fin⟩))
        · rename_i i
          cases r.int
          have hi : 0 ≤ i ∧ i < 10 ^ 40 := by
            have := hk.1
            unfold okShA at this
            simp only [Bool.and_eq_true, rokA, decide_eq_true_eq] at this
            exact this.1.1
          exact .inr (.inr (.inl ⟨i, rfl, Nat.lt_trans (intA_log hi) (by decide), fin⟩))
        · obtain ⟨p, vs, rfl, _, _⟩ := r.lst l
          exact .inl ⟨p, _, rfl, dp, h1, h2, h3, h4, fin⟩
        · obtain ⟨p, vs, rfl, _, _⟩ := r.tup l
          exact .inl ⟨p, _, rfl, dp, h1, h2, h3, h4, fin⟩
    · rw [if_neg hk] at ho
      cases ho
  · cases ho
theorem de_reprA {p : Pos} {k : Nat} (cg : Cg X.A k) (hm : X.mg "repr" = none) (ha : DA X W [e] fa) (hg : Gl X "repr" := by rfl)
    (he : starEach [e] X.env = [(false, eval e X.env)] := by rfl) : DE X W (.Call (.Name "repr" p) [e] [] pos) (fCB cReprA fa) :=
  de_cb (call_reprA cg) co_reprA hm (by decide +kernel) ha hg (by decide) (by decide) he rfl
end
end DL
set_option Elab.async false
set_option linter.all false
set_option maxRecDepth 100000
set_option maxHeartbeats 4000000
/-! DX10: list(d.items()), xs[::-1]. -/
namespace DL
open PySem PySem.Spec PyProof.Rows L2 LiI
section
variable {X : Cx} {W : WX'} {e : Expr} {te : TE} {f1 : Sl → Rs NV} {p apos cpos pos : Pos}
def tItemsL (te : TE) : TE := fun σ H Q => te σ H fun x H1 => ∃ (d : Addr) (kvs : List (Key × V)), x = .ref d ∧ Rd H1 d (.dK kvs) ∧ kvs.length ≤ 100000 ∧
  ∀ (H' : Hp) (p : Addr) (ts : List Addr), (∀ b o, H1 b = some o → H' b = some o) → H1 p = none → (∀ t ∈ ts, H1 t = none) → p ∉ ts → H' p = some (.lst (ts.map V.ref)) → Paired (fun (t : Addr) (q : Key × V) => H' t = some (.tup [kV q.1, q.2])) ts kvs → Q (.ref p) H'
theorem pe_itemsL (hc : X.calm = true) (he : PE X e te) (hg : Gl X "list") (hm : X.mg "list" = none) (hv : bootBuiltins "list" = some (.type "list")) (hbase : attributeBase e "items" X.env (eval e X.env) = eval e X.env := by rfl) (hline : (apos.endLine == cpos.line) = true := by rfl)
    (hs : starEach [.Call (.Attribute e "items" apos) [] [] cpos] X.env = (false, eval (.Call (.Attribute e "items" apos) [] [] cpos) X.env) :: starEach [] X.env := by rfl) :
    PE X (.Call (.Name "list" p) [.Call (.Attribute e "items" apos) [] [] cpos] [] pos) (tItemsL te) := by
  refine ⟨fun pins s σ H Q I hq => ?_⟩
  refine wpAny_Call_Name_kw (ld_blt I hg hm hv ?_)
  refine PyProof.Rows.callWith_type1 ?_ hs rfl
  rw [hs]
  show wpAny _ _ (spliced ((false, eval (.Call (.Attribute e "items" apos) [] [] cpos) X.env) :: backTo pos (starEach [] X.env))) _ _ s
  refine Calls.spliced_cons ?_
  refine wpAny_Call_method (T := "dict") (id := "dict.items") hbase rfl hline F.plainAttrs_dict F.slot_dict_items F.type_dict_items (thn (he.run pins s σ H _ I hq) fun u s1 ⟨x, H1, I1, rx, d, kvs, ex, hd, hz, q⟩ => ?_)
  subst ex
  obtain rfl : u = Value.ref d := rx
  obtain ⟨hs0, vs, ep, kv, hat⟩ := dict_at I1 hd
  have lk : kvs.length = vs.length := Paired.length kv
  have I2 : Inv X pins σ H1 { s1 with heap := s1.heap.push { cls := .type "dict_items", data := .fields #[.ref d] } } := I1.kept (t' := s1.toks) fun b ob q => Heap.get?_push_of_some _ q
  refine ⟨hat.dictOf.typeIs, hat.dictOf.mapOf.noDict, ?_⟩
  show wpAny _ _ (callWith cpos (.builtin "dict.items") [.ref d] [] []) _ X.xe s1
  refine method_meetsIn F.slot_dict_items F.entry_dict_items rfl (PySem.evalArgs_none ⟨rfl, hat.dictOf.typeIs, F.args_dict_items_1 _, _, meets_dict_items (mixKind X.prog X.w) d hs0, ⟨vs, hat.dictOf⟩, ?_⟩)
  refine Calls.spliced_nil ?_
  refine PySem.W.kdx_call (knd := mixKind X.prog X.w) (kvs := vs) (ep := ep) (I1.ok.hd hc) ⟨_, Heap.get?_push_size _ rfl, rfl, rfl⟩ (hat.push _) (by rw [← lk]; exact le_line hz) fun h' tk acc c as hk hS hl hG hacc => ?_
  obtain ⟨H', k1, k2, k3, k4, k5, k6, J⟩ := items_laid (tk := tk) I2 (le_line hz) kv hk hS hl hG hacc
  exact ⟨.ref _, H', J, rfl, q H' _ as k1 k2 k3 k4 k5 k6⟩
theorem items_rl {K : PySem.W.Frag} {G H' : Hp} : ∀ {ts : List Addr} {ws : List (Key × V)} {ds : List D}, Paired (fun (t : Addr) (q : Key × V) => H' t = some (.tup [kV q.1, q.2])) ts ws → (∀ t ∈ ts, G t = H' t) → RL K G ds (ws.map (·.2)) → RL K G (itemsD (ws.map (·.1)) ds) (ts.map V.ref)
  | [], [], ds, _, _, r => by
    have : ds = [] := by
      have := r.len
      exact List.length_eq_zero_iff.mp (by simpa using this.symm)
    rw [this]
    exact RL.nil
  | [], _ :: _, _, h, _, _ => by cases h
  | _ :: _, [], _, h, _, _ => by cases h
  | t :: ts, w :: ws, [], h, _, r => by
    have := r.len
    simp at this
  | t :: ts, w :: ws, d :: ds, h, hG, r => by
    cases h with
    | cons h1 h2 =>
      simp only [List.map_cons, RL, R.RL] at r
      obtain ⟨v, vr, q, r1, r2⟩ := r
      cases q
      simp only [List.map_cons, itemsD]
      refine RL.cons ?_ (items_rl h2 (fun t ht => hG t (List.mem_cons_of_mem _ ht)) r2)
      simp only [R]
      refine ⟨t, _, rfl, SqT.of (by rw [hG t List.mem_cons_self]; exact h1), RL.cons ?_ (RL.cons r1 RL.nil)⟩
      obtain ⟨k, u⟩ := w
      cases k <;> rfl
def fItemsL (f : Sl → Rs NV) : Sl → Rs RV := fun S => (f S).bind fun n S1 => match view S1 n with
  | some (.dic ks ds) => if ks.length = ds.length ∧ ds.length ≤ 100000 then .ok (.ol (itemsD ks ds)) S1 else .no
  | _ => .no
theorem de_itemsL (hc : X.calm = true) (hm : X.mg "list" = none) (he : DN X W e f1) (hg : Gl X "list" := by rfl) (hbase : attributeBase e "items" X.env (eval e X.env) = eval e X.env := by rfl) (hline : (apos.endLine == cpos.line) = true := by rfl)
    (hs : starEach [.Call (.Attribute e "items" apos) [] [] cpos] X.env = (false, eval (.Call (.Attribute e "items" apos) [] [] cpos) X.env) :: starEach [] X.env := by rfl) :
    DE X W (.Call (.Name "list" p) [.Call (.Attribute e "items" apos) [] [] cpos] [] pos) (fItemsL f1) := by
  obtain ⟨t, pe, q⟩ := he
  refine ⟨_, pe_itemsL hc pe hg hm (by decide +kernel) hbase hline hs, fun τ σ S G H s Q hq => ?_⟩
  refine Gd.cases (Q1 := fun x H1 => ∃ (d : Addr) (kvs : List (Key × V)), x = .ref d ∧ Rd H1 d (.dK kvs) ∧ kvs.length ≤ 100000 ∧
    ∀ (H' : Hp) (p : Addr) (ts : List Addr), (∀ b o, H1 b = some o → H' b = some o) → H1 p = none → (∀ t ∈ ts, H1 t = none) → p ∉ ts → H' p = some (.lst (ts.map V.ref)) → Paired (fun (t : Addr) (q : Key × V) => H' t = some (.tup [kV q.1, q.2])) ts kvs → Q (.ref p) H') bkR q s hq fun x n S1 G1 H1 s1 P o hq1 => ?_
  cases ev : view S1 n with
  | none => simp only [ev] at hq1; exact hq1.elim
  | some d =>
    have hx := view_ok s1 o ev
    cases d <;> try (simp only [ev] at hq1; exact hq1.elim)
    rename_i ks ds
    simp only [ev] at hq1
    by_cases h : ks.length = ds.length ∧ ds.length ≤ 100000
    · rw [if_pos h] at hq1
      obtain ⟨a, ws, rfl, h1, rfl, h3⟩ := hx.dic s1.le
      have el : ws.length = ds.length := by simpa using h.1
      refine ⟨a, ws, rfl, h1, by omega, fun H' p ts k1 k2 k3 k4 k5 k6 => ?_⟩
      have free : ∀ t, H1 t = none → G1 t = none := fun t ht => s1.le.free ht
      have ext : Ext G1 (fun b => if b ∈ ts then H' b else G1 b) := fun b u eb => by
        show (if b ∈ ts then H' b else G1 b) = some u
        rw [if_neg (fun z => by rw [free b (k3 b z)] at eb; cases eb)]
        exact eb
      have off : ∀ b, H1 b ≠ none → b ∉ ts := fun b hb z => hb (k3 b z)
      have st : Stp (fun _ => False) G1 H1 (fun b => if b ∈ ts then H' b else G1 b) H' := by
        refine ⟨ext, fun b hb _ => ⟨.inl ?_, if_neg (off b hb)⟩, fun b hb => ?_⟩
        · obtain ⟨u, eu⟩ := Option.ne_none_iff_exists'.mp hb
          rw [k1 b u eu, eu]
        · obtain ⟨u, eu⟩ := Option.ne_none_iff_exists'.mp hb
          rw [k1 b u eu]
          simp
      have le : Le (fun b => if b ∈ ts then H' b else G1 b) H' := fun b u eb => by
        by_cases hb : b ∈ ts
        · have eb' : (if b ∈ ts then H' b else G1 b) = some u := eb
          rw [if_pos hb] at eb'
          exact .inl eb'
        · have eb' : (if b ∈ ts then H' b else G1 b) = some u := eb
          rw [if_neg hb] at eb'
          rcases s1.le b u eb' with z | ⟨ws, ob, z1, z2⟩
          · exact .inl (k1 b _ z)
          · exact .inr ⟨ws, ob, z1, k1 b _ z2⟩
      refine hq1 _ _ H' (Pst.new s1 st le) ⟨⟨p, ts.map V.ref, rfl, k5, ?_, items_rl k6 (fun t ht => if_pos ht) (RL.mono ext _ _ h3)⟩, fun q e => by cases e; exact k2⟩
      show (if p ∈ ts then H' p else G1 p) = none
      rw [if_neg k4]
      exact free p k2
    · rw [if_neg h] at hq1
      exact hq1.elim
/-- xs[::-1] -/
def fRevL (f : Sl → Rs NV) : Sl → Rs RV := fun S => (f S).bind fun n S1 => match view S1 n with
  | some (.lst ds) => .ok (.ol ds.reverse) S1
  | _ => .no
theorem RL.rev {K : PySem.W.Frag} {G : Hp} : ∀ {ds : List D} {vs : List V}, RL K G ds vs → RL K G ds.reverse vs.reverse
  | [], vs, h => by
    simp only [RL, R.RL] at h
    rw [h]
    exact RL.nil
  | d :: ds, vs, h => by
    simp only [RL, R.RL] at h
    obtain ⟨v, r, rfl, h1, h2⟩ := h
    rw [List.reverse_cons, List.reverse_cons]
    exact RL.app (RL.rev h2) (RL.cons h1 RL.nil)
theorem de_revL {k : Nat} {p1 p2 p3 : Pos} (he : DN X W e f1) : DE X W (.Subscript e (.Slice none none (some (.UnaryOp .USub (.Constant (.int 1) k p1) p2)) p3) pos) (fRevL f1) := by
  obtain ⟨t, pe, q⟩ := he
  refine ⟨_, pe_revL pe, fun τ σ S G H s Q hq => ?_⟩
  refine Gd.cases (Q1 := fun x H1 => ∃ a xs, x = .ref a ∧ SqL X.K H1 a xs ∧ ∀ p, H1 p = none → Q (.ref p) (upd H1 p (.lst xs.reverse))) bkR q s hq fun x n S1 G1 H1 s1 P o hq1 => ?_
  cases ev : view S1 n with
  | none => simp only [ev] at hq1; exact hq1.elim
  | some d =>
    have hx := view_ok s1 o ev
    cases d <;> try (simp only [ev] at hq1; exact hq1.elim)
    rename_i ds
    simp only [ev] at hq1
    obtain ⟨a, vs, rfl, h1, h2⟩ := hx.lst s1.le
    exact ⟨a, vs, rfl, SqL.of h1, fun p hp => hq1 _ G1 _ (Pst.new s1 (stp_new hp) (le_new s1.le hp)) (okr_newL s1.le hp h2.rev)⟩
end
end DL
set_option Elab.async false
set_option linter.all false
set_option maxRecDepth 100000
set_option maxHeartbeats 4000000
/-! DX11: repr of data; a dict of values that have no dict within. -/
namespace DL
open PySem PySem.Spec PyProof.Rows L2
def zipK : List Key → List PyData → List (PyData × PyData)
  | k :: ks, p :: ps => (pk k, p) :: zipK ks ps
  | _, _ => []
mutual
def knG : D → Bool
  | .non => true
  | .bl _ => true
  | .int _ => true
  | .str _ => true
  | .lst ds => knGL ds
  | .tup ds => knGL ds
  | _ => false
def knGL : List D → Bool
  | [] => true
  | d :: ds => knG d && knGL ds
end
def tpG : D → Bool
  | .dic _ ds => knGL ds
  | d => knG d
def pyG : D → PyData
  | .dic ks ds => .dict (zipK ks (pydL ds))
  | d => pyd d
def okShG (d : D) : Bool := tpG d && ((pyG d).showable && ((pyG d).leavesShort 45 && (decide ((pyG d).depth ≤ 60) && decide ((pyG d).weight ≤ 300000))))
def rpG (d : D) : Str := (pyG d).shown
mutual
theorem kn_py : ∀ d : D, knG d = true → py d = some (pyd d) ∧ (pyd d).hasDict = false
  | .non, _ | .bl _, _ | .int _, _ | .str _, _ => ⟨by simp only [py, pyd], by simp only [pyd, PyData.hasDict]⟩
  | .lst ds, k => by
    obtain ⟨h1, h2⟩ := knL_py ds k
    exact ⟨by simp only [py, pyd, h1, Option.map_some], by simp only [pyd, PyData.hasDict, h2]⟩
  | .tup ds, k => by
    obtain ⟨h1, h2⟩ := knL_py ds k
    exact ⟨by simp only [py, pyd, h1, Option.map_some], by simp only [pyd, PyData.hasDict, h2]⟩
  | .dic _ _, k | .ref _, k | .ty _, k | .ins _ _ _, k | .scr _, k | .xob _ _ _, k => by simp only [knG] at k; cases k
theorem knL_py : ∀ ds : List D, knGL ds = true → pyL ds = some (pydL ds) ∧ PyData.hasDictAll (pydL ds) = false
  | [], _ => ⟨by simp only [pyL, pydL], by simp only [pydL, PyData.hasDictAll]⟩
  | d :: ds, k => by
    simp only [knGL, Bool.and_eq_true] at k
    obtain ⟨g1, g2⟩ := kn_py d k.1
    obtain ⟨h1, h2⟩ := knL_py ds k.2
    exact ⟨by simp only [pyL, pydL, g1, h1, Option.bind_some, Option.map_some], by simp only [pydL, PyData.hasDictAll, g2, h2, Bool.or_self]⟩
end
section
variable {X : Cx} {W : WX'} {K : PySem.W.Frag} {e : Expr} {fa : Sl → Rs (List NV)} {pos : Pos} {pins : List (Addr × Obj)} {σ : L2.St} {H G : Hp} {s : Shared}
theorem pairsOf {h : Heap} : ∀ {vs : List (Key × Value)} {ds : List PyData} {bs : List Addr}, ReadsAll h (vs.map (·.2)) ds bs → PyProof.V.PairsRead h pk vs (zipK (vs.map (·.1)) ds) bs
  | [], ds, bs, r => by
    cases r
    exact .nil
  | v :: vs, ds, bs, r => by
    cases r with
    | cons a b => exact .cons a (pairsOf b)
theorem kv_vals2 {kvs : List (Key × V)} {vs : List (Key × Value)} (h : KV kvs vs) : Vals (kvs.map (·.2)) (vs.map (·.2)) ∧ vs.map (·.1) = kvs.map (·.1) := by
  induction h with
  | nil => exact ⟨.nil, rfl⟩
  | cons h t ih => exact ⟨.cons h.2 ih.1, by simp only [List.map_cons, ih.2, h.1]⟩
theorem zip_fst : ∀ {ks : List Key} {ps : List PyData}, ks.length = ps.length → (zipK ks ps).map (·.2) = ps
  | [], [], _ => rfl
  | [], _ :: _, h => by cases h
  | _ :: _, [], h => by cases h
  | k :: ks, p :: ps, h => by simp only [zipK, List.map_cons, zip_fst (ks := ks) (ps := ps) (by simpa using h)]
theorem readsAll_len {h : Heap} : ∀ {vs : List Value} {ds : List PyData} {as : List Addr}, ReadsAll h vs ds as → vs.length = ds.length
  | [], _, _, r => by cases r; rfl
  | v :: vs, _, _, r => by
    cases r with
    | cons a b => simp only [List.length_cons, readsAll_len b]
theorem zip_keys : ∀ {ks : List Key} {ps : List PyData}, PyData.hasDictAll ((zipK ks ps).map (·.1)) = false
  | [], ps => by simp only [zipK, List.map_nil, PyData.hasDictAll]
  | k :: ks, [] => by simp only [zipK, List.map_nil, PyData.hasDictAll]
  | k :: ks, p :: ps => by
    simp only [zipK, List.map_cons, PyData.hasDictAll, zip_keys (ks := ks) (ps := ps), Bool.or_false]
    cases k <;> simp only [pk, PyData.hasDict]
theorem repr_dic {A : Around} {E : Value → Shared → Prop} {Q : Value → Shared → Prop} {a : Addr} {ws : List (Key × V)} {ds : List PyData} {us : List Addr} {vs : List (Key × Value)} (hs : (a == sysModules) = false) (dd : s.heap.DictOf (mixKind X.prog X.w) a vs)
    (hr : ReadsAll s.heap (vs.map (·.2)) ds us) (nd : PyData.hasDictAll ds = false) (sw : (PyData.dict (zipK (vs.map (·.1)) ds)).showable = true) (hl : (PyData.dict (zipK (vs.map (·.1)) ds)).shown.length ≤ sizeLine)
    (hg : A.guards = some []) (hu : A.units + ((PyData.dict (zipK (vs.map (·.1)) ds)).depth + 1) < cLine)
    (hQ : ∀ h' u tk, (∀ b o, s.heap.get? b = some o → h'.get? b = some o) → Q (.str (PyData.dict (zipK (vs.map (·.1)) ds)).shown u) { s with heap := h', toks := tk }) : wpAny (model X.prog X.w) A (call (.builtin "repr") [.ref a]) Q E s := by
  have lv := readsAll_len hr
  have pr := pairsOf hr
  have ev := zip_fst (ks := vs.map (·.1)) (ps := ds) (by rw [← lv, List.length_map, List.length_map])
  have nk := zip_keys (ks := vs.map (·.1)) (ps := ds)
  generalize hz0 : zipK (vs.map (·.1)) ds = kvs at *
  have hz' : (dictText (PyData.shownKv kvs)).length ≤ sizeLine := by simpa only [PyData.shown] using hl
  obtain ⟨o, es, ep, h1, hx, h3, _, hp, _⟩ := dd
  obtain ⟨h4, h5⟩ := PyProof.V.readsAll_of_pairs (fun k key hk => by
    rcases keyIs_shape hk with ⟨i, t, rfl, rfl⟩ | ⟨x, t, rfl, rfl⟩
    · exact Reads.int i t
    · exact Reads.str x t) hp pr
  obtain ⟨s1, s2⟩ := PyData.showableKv_split kvs (by simpa [PyData.showable] using sw)
  obtain ⟨b1, r1, k1⟩ := ReprAllK.of_readsAll (prog := X.prog) (w := X.w) h4 s1 (fun z => by rw [nk] at z; cases z) (fun t ht => by
    obtain ⟨p, q1, q2⟩ := PyData.shownKv_key_le kvs t ht
    exact Nat.le_trans q2 (Nat.le_trans (dictText_mem_le q1) hz'))
  obtain ⟨b2, r2, k2⟩ := ReprAllK.of_readsAll (prog := X.prog) (w := X.w) h5 s2 (fun z => by rw [ev, nd] at z; cases z) (fun t ht => by
    obtain ⟨p, q1, q2⟩ := PyData.shownKv_val_le kvs t ht
    exact Nat.le_trans q2 (Nat.le_trans (dictText_mem_le q1) hz'))
  have rb : ReadAtMost s.heap (PyData.depthKv kvs) (b1 ++ b2) := ReadAtMost.append (r1.mono (PyData.depthAll_keys_le kvs)) (r2.mono (PyData.depthAll_vals_le kvs))
  have na : a ∉ b1 ++ b2 := not_mem_of_deeper (.dict h1 hx.1 h3 h4 h5) (by simp only [PyData.depth]; omega) rb
  have en := ReprEntriesK.of_two es.toList _ _ (k1.more_le (fun b => List.mem_append_left b2) (PyData.depthAll_keys_le kvs)) (k2.more_le (fun b => List.mem_append_right b1) (PyData.depthAll_vals_le kvs))
  refine call_repr_slot (T := "dict") (idr := "dict.__repr__") (by omega) ⟨o, h1, hx.1⟩ F.slot_dict_repr ?_
  simp only [PyData.depth] at hu
  simp only [PyData.shown, PyData.shownKv_eq] at hQ
  exact call_dict_reprK (h₀ := s.heap) h1 hx.1 h3 hs na en hg (fun b _ => Clear.nil b) (by show A.units + 1 + _ < cLine; omega) (fun _ _ e => e) (fun h' u tk hk => ⟨_, _, rfl, hQ h' u tk hk⟩) (by rw [← PyData.shownKv_eq]; exact hz')
def rReprG (K : PySem.W.Frag) : List V → Hp → VK → Prop := fun xs H Q => ∃ G d x, Le G H ∧ xs = [x] ∧ RX K G H d x ∧ okShG d = true ∧ Q (.str (rpG d)) H
theorem call_reprG {k : Nat} (cg : Cg X.A k) : CallR X (.builtin "repr") (rReprG X.K) := by
  intro pins s σ H xs us Q I r h
  obtain ⟨G, d, x, l, rfl, hx, ok, q⟩ := h
  unfold okShG at ok
  simp only [Bool.and_eq_true, decide_eq_true_eq] at ok
  obtain ⟨o1, o2, o3, o4, o5⟩ := ok
  have sl := PyData.shown_le 45 (by decide) _ o3
  have hl : (pyG d).shown.length ≤ sizeLine := by rw [sizeLine_eq]; omega
  cases d with
  | non =>
    cases hx.non
    exact call_reprN pins s σ H _ us Q I r ⟨rfl, q⟩
  | bl b =>
    cases hx.bl
    refine call_reprB pins s σ H _ us Q I r ⟨b, rfl, ?_⟩
    cases b <;> exact q
  | int i =>
    cases hx.int
    simp only [pyG, pyd, PyData.showable, decide_eq_true_eq] at o2
    exact SkE.call_repr_int pins s σ H _ us Q I r ⟨i, rfl, o2, q⟩
  | str y =>
    cases hx.str
    obtain ⟨u, rfl, rx⟩ := vals1 r
    obtain ⟨t, rfl⟩ := rx
    exact PySem.P.repr_of_str ⟨.str _, H, I.tok _, ⟨_, rfl⟩, q⟩ (by simpa only [pyG, pyd, PyData.shown] using hl)
  | lst ds =>
    obtain ⟨e1, e2⟩ := kn_py _ o1
    have dp := dpx_of l hx e1
    obtain ⟨a, vs, rfl, _, _⟩ := hx.lst l
    exact call_repr cg pins s σ H _ us Q I r ⟨a, _, rfl, dp, o2, e2, o4, hl, q⟩
  | tup ds =>
    obtain ⟨e1, e2⟩ := kn_py _ o1
    have dp := dpx_of l hx e1
    obtain ⟨a, vs, rfl, _, _⟩ := hx.tup l
    exact call_repr cg pins s σ H _ us Q I r ⟨a, _, rfl, dp, o2, e2, o4, hl, q⟩
  | dic ks ds =>
    obtain ⟨u, rfl, rx⟩ := vals1 r
    obtain ⟨a, ws, rfl, h1, rfl, h3⟩ := hx.dic l
    cases rx
    obtain ⟨e1, e2⟩ := knL_py _ o1
    obtain ⟨z, hs, vs, kv, dd⟩ := dk_rd I.hok h1
    obtain ⟨q1, q2⟩ := kv_vals2 kv
    obtain ⟨as, ra⟩ := Dp.readsAll I _ _ _ (dpL_of l _ _ _ h3 e1) q1
    simp only [pyG] at o2 hl o4
    simp only [rpG, pyG] at q
    rw [← q2] at o2 hl o4 q
    exact repr_dic (ws := ws) hs dd ra e2 o2 hl cg.gd (by have := cg.room.units; omega) fun h' u tk hk => ⟨.str _, H, I.kept (t' := tk) hk, ⟨u, rfl⟩, q⟩
  | _ => simp only [tpG, knG] at o1; cases o1
def cReprG : List D → Option RV
  | [d] => if okShG d = true then some (.f (.str (rpG d))) else none
  | _ => none
theorem co_reprG : CallOk K (rReprG K) cReprG := by
  intro G H xs ds o l hx ho Q hQ
  unfold cReprG at ho
  split at ho
  · rename_i d
    by_cases hk : okShG d = true
    · rw [if_pos hk] at ho
      cases ho
      cases hx with
      | cons r t =>
        cases t
        exact ⟨G, d, _, l, rfl, r, hk, ok_val (d := .str _) l rfl hQ⟩
    · rw [if_neg hk] at ho
      cases ho
  · cases ho
theorem de_reprG {p : Pos} {k : Nat} (cg : Cg X.A k) (hm : X.mg "repr" = none) (ha : DA X W [e] fa) (hg : Gl X "repr" := by rfl)
    (he : starEach [e] X.env = [(false, eval e X.env)] := by rfl) : DE X W (.Call (.Name "repr" p) [e] [] pos) (fCB cReprG fa) :=
  de_cb (call_reprG cg) co_reprG hm (by decide +kernel) ha hg (by decide) (by decide) he rfl
end
end DL
set_option Elab.async false
set_option linter.all false
set_option maxRecDepth 100000
set_option maxHeartbeats 4000000
/-! DX12: i in range(lo, hi). -/
namespace DL
open PySem L2
section
variable {X : Cx} {W : WX'} {K : PySem.W.Frag} {a b c : Expr} {f1 : Sl → Rs NV} {fa : Sl → Rs (List NV)} {p q pos : Pos}
def inRgR (n : NV) (ns : List NV) (S : Sl) : Rs RV := match n, ns with
  | .f (.int i), [.f (.int lo), .f (.int hi)] => .ok (.f (.bl (decide (lo ≤ i ∧ i < hi)))) S
  | _, _ => .no
def fInRg (f1 : Sl → Rs NV) (fa : Sl → Rs (List NV)) : Sl → Rs RV := fun S => (f1 S).bind fun n S1 => (fa S1).bind fun ns S2 => inRgR n ns S2
theorem de_inRg (hc : X.mg "range" = none) (ha : DN X W a f1) (hb : DA X W [b, c] fa) (hg : Gl X "range" := by rfl) (he : starEach [b, c] X.env = (false, eval b X.env) :: starEach [c] X.env := by rfl) (hpl : (backTo q (starEach [c] X.env)).any (·.1) = false := by rfl)
    (hm : behindInMarks .In (.Call (.Name "range" p) [b, c] [] q) = false := by rfl) : DE X W (.Compare a [.In] [.Call (.Name "range" p) [b, c] [] q] pos) (fInRg f1 fa) := by
  obtain ⟨t1, p1, q1⟩ := ha
  obtain ⟨t2, p2, q2, _⟩ := hb
  refine ⟨_, pe_cmpR op_in_rng p1 (pe_callTy cr_range2 hg hc (by decide +kernel) p2 (by decide) (by decide) he hpl) hm, fun τ σ S G H s Q hq => ?_⟩
  refine Gd.cases (Q1 := fun x H1 => t2 σ H1 fun vs H2 => ∃ i j, vs = [V.int i, V.int j] ∧ ∀ p, H2 p = none → ∃ k a lo hi, x = V.int k ∧ V.ref p = V.ref a ∧ upd H2 p (.rng i j) a = some (.rng lo hi) ∧ Q (.bl (decide (lo ≤ k ∧ k < hi))) (upd H2 p (.rng i j))) bkR q1 s hq fun x n S1 G1 H1 s1 P o hq1 => ?_
  refine Gd.cases (Q1 := fun vs H2 => ∃ i j, vs = [V.int i, V.int j] ∧ ∀ p, H2 p = none → ∃ k a lo hi, x = V.int k ∧ V.ref p = V.ref a ∧ upd H2 p (.rng i j) a = some (.rng lo hi) ∧ Q (.bl (decide (lo ≤ k ∧ k < hi))) (upd H2 p (.rng i j))) bkR q2 s1 hq1 fun vs ns S2 G2 H2 s2 P2 oa hq2 => ?_
  unfold inRgR at hq2
  split at hq2
  · rename_i i lo hi
    cases (show x = .int i from o)
    have r := dsOf_ok oa (ds := [.int lo, .int hi]) rfl
    simp only [RL, R.RL, R] at r
    obtain ⟨_, _, rfl, rfl, _, _, rfl, rfl, rfl⟩ := r
    refine ⟨lo, hi, rfl, fun p hp => ⟨i, p, lo, hi, rfl, rfl, upd_same, ?_⟩⟩
    exact hq2 _ G2 _ (Pst.new s2 (stp_new hp) (le_new s2.le hp)) ⟨rfl, fun _ z => nomatch z⟩
  · exact hq2.elim
end
end DL
set_option Elab.async false
set_option linter.all false
set_option maxRecDepth 100000
/-! PT14: what _law_long_right asks, in plain Lean. -/
namespace DL
open PySem L2
open TL (tl)
theorem words_rep (r : List Nat) : ∀ m : Nat, wordsL 32 [] ((List.replicate m [97, 98, 32]).flatten ++ r) = List.replicate m [97, 98] ++ wordsL 32 [] r
  | 0 => rfl
  | m + 1 => by
    have ih := words_rep r m
    have e1 : (List.replicate (m + 1) [97, 98, 32]).flatten ++ r = 97 :: 98 :: 32 :: ((List.replicate m [97, 98, 32]).flatten ++ r) := by
      rw [List.replicate_succ, List.flatten_cons]
      rfl
    have e2 : List.replicate (m + 1) [97, 98] ++ wordsL 32 [] r = [97, 98] :: (List.replicate m [97, 98] ++ wordsL 32 [] r) := by
      rw [List.replicate_succ]
      rfl
    rw [e1, e2, ← ih]
    rfl
theorem tl_ab : tl (PySem.Str.ofString "ab ") = [97, 98, 32] := by decide +kernel
theorem tl_a : tl (PySem.Str.ofString "a") = [97] := by decide +kernel
theorem words_ab (m : Nat) : wordsL 32 [] (tl (repS m (PySem.Str.ofString "ab ") ++ PySem.Str.ofString "a")) = List.replicate m [97, 98] ++ [[97]] := by
  have e : tl (repS m (PySem.Str.ofString "ab ") ++ PySem.Str.ofString "a") = (List.replicate m [97, 98, 32]).flatten ++ [97] := by
    rw [TL.tl_append, tl_a]
    show (List.replicate m (tl (PySem.Str.ofString "ab "))).flatten ++ _ = _
    rw [tl_ab]
  rw [e, words_rep]
  rfl
theorem words_ab0 (m : Nat) : wordsL 32 [] (tl (repS m (PySem.Str.ofString "ab "))) = List.replicate m [97, 98] ++ [[]] := by
  have e : tl (repS m (PySem.Str.ofString "ab ")) = (List.replicate m [97, 98, 32]).flatten ++ [] := by
    show (List.replicate m (tl (PySem.Str.ofString "ab "))).flatten = _
    rw [tl_ab, List.append_nil]
  rw [e, words_rep]
  rfl
theorem no10_ab (m : Nat) : ¬ 10 ∈ tl (repS m (PySem.Str.ofString "ab ") ++ PySem.Str.ofString "a") := by
  rw [TL.tl_append, tl_a, show tl (repS m (PySem.Str.ofString "ab ")) = (List.replicate m (tl (PySem.Str.ofString "ab "))).flatten from rfl, tl_ab]
  intro h
  rcases List.mem_append.mp h with h | h
  · obtain ⟨l, h1, h2⟩ := List.mem_flatten.mp h
    rw [List.eq_of_mem_replicate h1] at h2
    simp at h2
  · simp at h
theorem spl_ab (m : Nat) : splW 32 (repS m (PySem.Str.ofString "ab ") ++ PySem.Str.ofString "a") = some (List.replicate m [97, 98] ++ [[97]]) := by
  unfold splW
  rw [words_ab, if_neg]
  rintro (h | h)
  · exact no10_ab m h
  · rcases List.mem_append.mp h with h | h
    · have := List.eq_of_mem_replicate h
      cases this
    · simp at h
theorem spl_ab0 (m : Nat) : splW 32 (repS m (PySem.Str.ofString "ab ")) = none := by
  unfold splW
  rw [words_ab0, if_pos (.inr (List.mem_append_right _ (by simp)))]
end DL
set_option Elab.async false
set_option linter.all false
set_option maxRecDepth 100000
set_option maxHeartbeats 4000000
/-! switchlayout_k02_targets_integers_and_va: each def's names, what it denotes, its derivation (printed by gen.py). -/
namespace DL
open PySem L2
def top (i : Nat) : Stmt := PySem.Challenge.pw_switchlayout_k02_targets_integers_and_va.main.body.getD i (.Pass ⟨0, 0, 0, 0⟩)
abbrev fDic0 : Sl → Rs RV := fun S => .ok (.od [] []) S
abbrev sx_InvalidTarget : Stmt := clsAt (top 13) 0
abbrev px_InvalidTarget : List Str := ["self", "value"]
structure Txt (w : World) (K : PySem.W.Frag) (mg : Str → Option Value) : Prop where
  n_max : mg "max" = none
  n_int : mg "int" = none
  n_len : mg "len" = none
  n_bool : mg "bool" = none
  n_isinstance : mg "isinstance" = none
  n_dict : mg "dict" = none
  g_LAST_VALUE : ∃ t, mg "LAST_VALUE" = some (.int 999999999 t)
  g_MOST_TIMES : ∃ t, mg "MOST_TIMES" = some (.int 999 t)
  n_all : mg "all" = none
  g_MOST_COUNTED : ∃ t, mg "MOST_COUNTED" = some (.int 60 t)
  n_list : mg "list" = none
  n_repr : mg "repr" = none
  n_range : mg "range" = none
  g_LETTERS : ∃ t, mg "LETTERS" = some (.str (PySem.Str.ofString "abcdefghijklmnopqrstuvwxyz") t)
  g_LONGEST_TARGET : ∃ t, mg "LONGEST_TARGET" = some (.int 6 t)
  n_str : mg "str" = none
  x_InvalidTarget : Xc K mg "InvalidTarget" "LayoutError" "value" sx_InvalidTarget
  n_min : mg "min" = none
  n_tuple : mg "tuple" = none
  t_law_box : Tx K "_law_box" (top 16)
  t_law_cell : Tx K "_law_cell" (top 15)
  t_law_take : Tx K "_law_take" (top 17)
  t_law_counted : Tx K "_law_counted" (top 23)
  t_is_integer : Tx K "is_integer" (top 6)
  t_is_value : Tx K "is_value" (top 7)
  t_is_counts : Tx K "is_counts" (top 10)
  t_law_counts_right : Tx K "_law_counts_right" (top 24)
  t_law_word : Tx K "_law_word" (top 18)
  t_is_target : Tx K "is_target" (top 8)
  t_law_named : Tx K "_law_named" (top 19)
  t_law_names_right : Tx K "_law_names_right" (top 20)
  t_law_integers_right : Tx K "_law_integers_right" (top 21)
  t_is_list : Tx K "is_list" (top 9)
  t_law_values_right : Tx K "_law_values_right" (top 22)
  t_law : Tx K "law" (top 25)
section
variable {P : Program} {w : World} {K : PySem.W.Frag} {mg : Str → Option Value} {base : Heap}
theorem sc_InvalidTarget : FnScope px_InvalidTarget px_InvalidTarget (defScope sx_InvalidTarget) := ⟨rfl, rfl, rfl, by decide +kernel, rfl, by decide +kernel, by decide +kernel⟩
theorem ho_InvalidTarget : XcOk P w K mg base "InvalidTarget" "LayoutError" "value" sx_InvalidTarget px_InvalidTarget := fun C B fI fd T => ⟨ok_init (m := (PySem.Str.ofString "a value is not a target")) T sc_InvalidTarget rfl fun cdv A outer s H E =>
  pss_cons (ps_expr (pe_binit rfl T.gB rfl T.bg T.br T.bi (pa_cons (pv 0) (pa_cons pe_str pa_nil)))) (pss_one (ps_ost (pv 0) (pv 1))), T.fn.binds fun _ _ _ _ _ _ us hl => match us, hl with | [_, _], _ => rfl⟩
/-! _law_box -/
abbrev s_law_box : Stmt := top 16
abbrev ps_law_box : List Str := ["_law_cell_here"]
abbrev N_law_box : List Str := ["_law_cell_here"]
theorem sc_law_box : FnScope N_law_box ps_law_box (defScope s_law_box) := ⟨rfl, rfl, rfl, by decide +kernel, rfl, by decide +kernel, by decide +kernel⟩
def B_law_box : Sl → Out := (sRet (fLst (fCons (frz (fCB cMax (fCons (frz (fC (.int 0))) (fCons (frz (fOp oSub (frz (fVar 0)) (frz (fOp oPow (frz (fC (.int 10))) (frz (fC (.int 18))))))) fNil)))) (fCons (frz (fOp oMod (frz (fCB cInt (fCons (frz (fVar 0)) fNil))) (frz (fC (.int 2147483629))))) (fCons (frz (fC (.int 0))) fNil)))))
def F_law_box : Sl → Rs RV := bodyF0 0 B_law_box
theorem fd_law_box (wd : Wd K mg) (T : Txt w K mg)  : Fd P w K mg base CX0 1 "_law_box" ps_law_box F_law_box :=
  fd_den wd T.t_law_box sc_law_box rfl (fun _ _ _ _ _ _ us hl => match us, hl with | [_], _ => rfl) fun f cdv A outer s H E cg =>
    show DSs _ _ _ B_law_box from (dss_one (ds_ret (de_lst (da_cons ((de_max2 rfl T.n_max (da_cons (de_int).n (da_cons ((de_sub ((de_var 0)).n ((de_pow (de_int).n (de_int).n)).n)).n da_nil)))).n (da_cons ((de_mod ((de_int1 T.n_int (da_cons ((de_var 0)).n da_nil))).n (de_int).n)).n (da_cons (de_int).n da_nil))))))
/-! _law_cell -/
abbrev s_law_cell : Stmt := top 15
abbrev ps_law_cell : List Str := ["_law_script", "_law_k"]
abbrev N_law_cell : List Str := ["_law_script", "_law_k"]
theorem sc_law_cell : FnScope N_law_cell ps_law_cell (defScope s_law_cell) := ⟨rfl, rfl, rfl, by decide +kernel, rfl, by decide +kernel, by decide +kernel⟩
def B_law_cell : Sl → Out := (sSeq (sIf (fB (frz (fOp oLt (frz (fVar 1)) (frz (fCB cLenA (fCons (frz (fVar 0)) fNil)))))) (sRet (fOp oIx (frz (fVar 0)) (frz (fVar 1)))) sNext) (sRet (fOp oCat (frz (fOp oRep (frz (fC (.int 15502387))) (frz (fVar 1)))) (frz (fC (.int 761))))))
def F_law_cell : Sl → Rs RV := bodyF0 0 B_law_cell
theorem fd_law_cell (wd : Wd K mg) (T : Txt w K mg)  : Fd P w K mg base CX0 1 "_law_cell" ps_law_cell F_law_cell :=
  fd_den wd T.t_law_cell sc_law_cell rfl (fun _ _ _ _ _ _ us hl => match us, hl with | [_, _], _ => rfl) fun f cdv A outer s H E cg =>
    show DSs _ _ _ B_law_cell from (dss_cons (ds_if (dt_lt ((de_var 1)).n ((de_lenA T.n_len (da_cons ((de_var 0)).n da_nil))).n) (dss_one (ds_ret (de_ix ((de_var 0)).n ((de_var 1)).n))) dss_nil) (dss_one (ds_ret (de_plus ((de_times (de_int).n ((de_var 1)).n)).n (de_int).n))))
/-! _law_take -/
abbrev s_law_take : Stmt := top 17
abbrev ps_law_take : List Str := ["_law_box_here", "_law_many"]
abbrev N_law_take : List Str := ["_law_box_here", "_law_many", "_law_mixed", "_law_digit"]
theorem sc_law_take : FnScope N_law_take ps_law_take (defScope s_law_take) := ⟨rfl, rfl, rfl, by decide +kernel, rfl, by decide +kernel, by decide +kernel⟩
def B_law_take : Sl → Out := (sSeq (sIf (fB (frz (fOp oGt (frz (fOp oIx (frz (fVar 0)) (frz (fC (.int 0))))) (frz (fC (.int 0)))))) (sSeq (sSet 3 (fOp oMod (frz (fCB cInt (fCons (frz (fOp oIx (frz (fVar 0)) (frz (fC (.int 0))))) fNil))) (frz (fVar 1)))) (sSeq (sPutIx 0 (frz (fC (.int 0))) (frz (fOp oDiv (frz (fOp oIx (frz (fVar 0)) (frz (fC (.int 0))))) (frz (fVar 1))))) (sRet (fVar 3)))) sNext) (sSeq (sPutIx 0 (frz (fC (.int 2))) (frz (fOp oCat (frz (fOp oIx (frz (fVar 0)) (frz (fC (.int 2))))) (frz (fC (.int 1)))))) (sSeq (sSet 2 (fOp oMod (frz (fOp oPow (frz (fOp oCat (frz (fOp oCat (frz (fOp oIx (frz (fVar 0)) (frz (fC (.int 1))))) (frz (fOp oRep (frz (fC (.int 15502387))) (frz (fOp oIx (frz (fVar 0)) (frz (fC (.int 2))))))))) (frz (fC (.int 761))))) (frz (fC (.int 5))))) (frz (fC (.int 2147483647))))) (sSeq (sSet 2 (fOp oMod (frz (fOp oPow (frz (fOp oCat (frz (fVar 2)) (frz (fOp oRep (frz (fC (.int 104723))) (frz (fOp oIx (frz (fVar 0)) (frz (fC (.int 2))))))))) (frz (fC (.int 3))))) (frz (fC (.int 2147483587))))) (sRet (fOp oMod (frz (fOp oDiv (frz (fVar 2)) (frz (fC (.int 16))))) (frz (fVar 1))))))))
def F_law_take : Sl → Rs RV := bodyF0 2 B_law_take
theorem fd_law_take (wd : Wd K mg) (T : Txt w K mg)  : Fd P w K mg base CX0 1 "_law_take" ps_law_take F_law_take :=
  fd_den wd T.t_law_take sc_law_take rfl (fun _ _ _ _ _ _ us hl => match us, hl with | [_, _], _ => rfl) fun f cdv A outer s H E cg =>
    show DSs _ _ _ B_law_take from (dss_cons (ds_if (dt_gt ((de_ix ((de_var 0)).n (de_int).n)).n (de_int).n) (dss_cons (ds_set 3 sc_law_take.nd (de_mod ((de_int1 T.n_int (da_cons ((de_ix ((de_var 0)).n (de_int).n)).n da_nil))).n ((de_var 1)).n)) (dss_cons (ds_putIx 0 ((de_div ((de_ix ((de_var 0)).n (de_int).n)).n ((de_var 1)).n)).n (de_int).n) (dss_one (ds_ret (de_var 3))))) dss_nil) (dss_cons (ds_putIx 0 ((de_plus ((de_ix ((de_var 0)).n (de_int).n)).n (de_int).n)).n (de_int).n) (dss_cons (ds_set 2 sc_law_take.nd (de_mod ((de_pow ((de_plus ((de_plus ((de_ix ((de_var 0)).n (de_int).n)).n ((de_times (de_int).n ((de_ix ((de_var 0)).n (de_int).n)).n)).n)).n (de_int).n)).n (de_int).n)).n (de_int).n)) (dss_cons (ds_set 2 sc_law_take.nd (de_mod ((de_pow ((de_plus ((de_var 2)).n ((de_times (de_int).n ((de_ix ((de_var 0)).n (de_int).n)).n)).n)).n (de_int).n)).n (de_int).n)) (dss_one (ds_ret (de_mod ((de_div ((de_var 2)).n (de_int).n)).n ((de_var 1)).n)))))))
/-! _law_counted -/
abbrev s_law_counted : Stmt := top 23
abbrev ps_law_counted : List Str := ["_law_thing"]
abbrev N_law_counted : List Str := ["_law_thing", "_law_key", "_law_times"]
theorem sc_law_counted : FnScope N_law_counted ps_law_counted (defScope s_law_counted) := ⟨rfl, rfl, rfl, by decide +kernel, rfl, by decide +kernel, by decide +kernel⟩
def B_law_counted : Sl → Out := (sSeq (sIf (fOr (fNot (fB (frz (fCB cIsi (fCons (frz (fVar 0)) (fCons (frz (fC (.ty "dict"))) fNil)))))) (fB (frz (fOp oGt (frz (fCB cLenA (fCons (frz (fVar 0)) fNil))) (frz (fC (.int 60))))))) (sRet (fC (.bl false))) sNext) (sSeq (sFor (fun S => ((frz (fVarF 0)) S).bind itemsOf) (bAny (bCons (bName 1) (bCons (bName 2) bNil))) (sSeq (sIf (fOr (fNot (fB (frz (fCB cIsi (fCons (frz (fVar 1)) (fCons (frz (fC (.ty "int"))) fNil)))))) (fOr (fB (frz (fCB cIsi (fCons (frz (fVar 1)) (fCons (frz (fC (.ty "bool"))) fNil))))) (fNot (fB (frz (fChain oLe oLt (frz (fC (.int 0))) (frz (fVar 1)) (frz (fOp oPow (frz (fC (.int 10))) (frz (fC (.int 9))))))))))) (sRet (fC (.bl false))) sNext) (sIf (fOr (fNot (fB (frz (fCB cIsi (fCons (frz (fVar 2)) (fCons (frz (fC (.ty "int"))) fNil)))))) (fOr (fB (frz (fCB cIsi (fCons (frz (fVar 2)) (fCons (frz (fC (.ty "bool"))) fNil))))) (fNot (fB (frz (fChain oLe oLe (frz (fC (.int 0))) (frz (fVar 2)) (frz (fC (.int 999))))))))) (sRet (fC (.bl false))) sNext))) (sRet (fC (.bl true)))))
def F_law_counted : Sl → Rs RV := bodyF0 2 B_law_counted
theorem fd_law_counted (wd : Wd K mg) (T : Txt w K mg)  : Fd P w K mg base CX0 1 "_law_counted" ps_law_counted F_law_counted :=
  fd_den wd T.t_law_counted sc_law_counted rfl (fun _ _ _ _ _ _ us hl => match us, hl with | [_], _ => rfl) fun f cdv A outer s H E cg =>
    show DSs _ _ _ B_law_counted from (dss_cons (ds_if (DW.t (dw_or (dt_not (dt_val ((de_isi T.n_isinstance (da_cons ((de_var 0)).n (da_cons ((de_bty T.n_dict (by decide +kernel))).n da_nil)))).n)) (dw_or1 (dt_gt ((de_lenA T.n_len (da_cons ((de_var 0)).n da_nil))).n (de_int).n)))) (dss_one (ds_ret de_bl)) dss_nil) (dss_cons (ds_for PassesOwn.never rfl (di_items ((de_varF 0)).n) (dg_any (K := K) rfl (dgs_cons (dg_name 1 sc_law_counted.nd) (dgs_cons (dg_name 2 sc_law_counted.nd) dgs_nil))) (dss_cons (ds_if (DW.t (dw_or (dt_not (dt_val ((de_isi T.n_isinstance (da_cons ((de_var 1)).n (da_cons ((de_bty T.n_int (by decide +kernel))).n da_nil)))).n)) (dw_or (dt_val ((de_isi T.n_isinstance (da_cons ((de_var 1)).n (da_cons ((de_bty T.n_bool (by decide +kernel))).n da_nil)))).n) (dw_or1 (dt_not (dt_lelt (de_int).n ((de_var 1)).n ((de_pow (de_int).n (de_int).n)).n)))))) (dss_one (ds_ret de_bl)) dss_nil) (dss_one (ds_if (DW.t (dw_or (dt_not (dt_val ((de_isi T.n_isinstance (da_cons ((de_var 2)).n (da_cons ((de_bty T.n_int (by decide +kernel))).n da_nil)))).n)) (dw_or (dt_val ((de_isi T.n_isinstance (da_cons ((de_var 2)).n (da_cons ((de_bty T.n_bool (by decide +kernel))).n da_nil)))).n) (dw_or1 (dt_not (dt_lele (de_int).n ((de_var 2)).n (de_int).n)))))) (dss_one (ds_ret de_bl)) dss_nil)))) (dss_one (ds_ret de_bl))))
/-! is_integer -/
abbrev s_is_integer : Stmt := top 6
abbrev ps_is_integer : List Str := ["value", "low", "high"]
abbrev N_is_integer : List Str := ["value", "low", "high"]
theorem sc_is_integer : FnScope N_is_integer ps_is_integer (defScope s_is_integer) := ⟨rfl, rfl, rfl, by decide +kernel, rfl, by decide +kernel, by decide +kernel⟩
def B_is_integer : Sl → Out := (sRet (fAndV (frz (fCB cIsi (fCons (frz (fVar 0)) (fCons (frz (fC (.ty "int"))) fNil)))) (fAndV (frz (fNotV (frz (fCB cIsi (fCons (frz (fVar 0)) (fCons (frz (fC (.ty "bool"))) fNil)))))) (fChain oLe oLe (frz (fVar 1)) (frz (fVar 0)) (frz (fVar 2))))))
def F_is_integer : Sl → Rs RV := bodyF0 0 B_is_integer
theorem fd_is_integer (wd : Wd K mg) (T : Txt w K mg)  : Fd P w K mg base CX0 1 "is_integer" ps_is_integer F_is_integer :=
  fd_den wd T.t_is_integer sc_is_integer rfl (fun _ _ _ _ _ _ us hl => match us, hl with | [_, _, _], _ => rfl) fun f cdv A outer s H E cg =>
    show DSs _ _ _ B_is_integer from (dss_one (ds_ret (de_and ((de_isi T.n_isinstance (da_cons ((de_var 0)).n (da_cons ((de_bty T.n_int (by decide +kernel))).n da_nil)))).n (de_and ((de_not ((de_isi T.n_isinstance (da_cons ((de_var 0)).n (da_cons ((de_bty T.n_bool (by decide +kernel))).n da_nil)))).n)).n (de_one (de_lele ((de_var 1)).n ((de_var 0)).n ((de_var 2)).n))))))
/-! is_value -/
abbrev s_is_value : Stmt := top 7
abbrev ps_is_value : List Str := ["value"]
abbrev N_is_value : List Str := ["value"]
theorem sc_is_value : FnScope N_is_value ps_is_value (defScope s_is_value) := ⟨rfl, rfl, rfl, by decide +kernel, rfl, by decide +kernel, by decide +kernel⟩
def B_is_value : Sl → Out := (sRet (fCall F_is_integer (fCons (frz (fVarF 0)) (fCons (frz (fC (.int 0))) (fCons (frz (fC (.int 999999999))) fNil)))))
def F_is_value : Sl → Rs RV := bodyF0 0 B_is_value
theorem fd_is_value (wd : Wd K mg) (T : Txt w K mg) (h_is_integer : Fd P w K mg base CX0 1 "is_integer" ps_is_integer F_is_integer) : Fd P w K mg base CX0 2 "is_value" ps_is_value F_is_value :=
  fd_den wd T.t_is_value sc_is_value rfl (fun _ _ _ _ _ _ us hl => match us, hl with | [_], _ => rfl) fun f cdv A outer s H E cg =>
    show DSs _ _ _ B_is_value from (dss_one (ds_ret (de_call h_is_integer cg (by decide) passW0 rfl (da_cons ((de_varF 0)).n (da_cons (de_int).n (da_cons ((de_gint T.g_LAST_VALUE)).n da_nil))))))
/-! is_counts -/
abbrev s_is_counts : Stmt := top 10
abbrev ps_is_counts : List Str := ["value"]
abbrev N_is_counts : List Str := ["value", "key", "times"]
theorem sc_is_counts : FnScope N_is_counts ps_is_counts (defScope s_is_counts) := ⟨rfl, rfl, rfl, by decide +kernel, rfl, by decide +kernel, by decide +kernel⟩
def B_is_counts : Sl → Out := (sSeq (sIf (fOr (fNot (fB (frz (fCB cIsi (fCons (frz (fVar 0)) (fCons (frz (fC (.ty "dict"))) fNil)))))) (fB (frz (fOp oGt (frz (fCB cLenA (fCons (frz (fVar 0)) fNil))) (frz (fC (.int 60))))))) (sRet (fC (.bl false))) sNext) (sRet (fCB cAll (fCons (frz (fLc [1, 2] (fun S => ((frz (fVarF 0)) S).bind itemsOf) (bAny (bCons (bName 1) (bCons (bName 2) bNil))) fYes (frz (fAndV (frz (fCall F_is_value (fCons (frz (fVarF 1)) fNil))) (fCall F_is_integer (fCons (frz (fVarF 2)) (fCons (frz (fC (.int 0))) (fCons (frz (fC (.int 999))) fNil)))))))) fNil))))
def F_is_counts : Sl → Rs RV := bodyF0 2 B_is_counts
theorem fd_is_counts (wd : Wd K mg) (T : Txt w K mg) (h_is_integer : Fd P w K mg base CX0 1 "is_integer" ps_is_integer F_is_integer) (h_is_value : Fd P w K mg base CX0 2 "is_value" ps_is_value F_is_value) : Fd P w K mg base CX0 3 "is_counts" ps_is_counts F_is_counts :=
  fd_den wd T.t_is_counts sc_is_counts rfl (fun _ _ _ _ _ _ us hl => match us, hl with | [_], _ => rfl) fun f cdv A outer s H E cg =>
    show DSs _ _ _ B_is_counts from (dss_cons (ds_if (DW.t (dw_or (dt_not (dt_val ((de_isi T.n_isinstance (da_cons ((de_var 0)).n (da_cons ((de_bty T.n_dict (by decide +kernel))).n da_nil)))).n)) (dw_or1 (dt_gt ((de_lenA T.n_len (da_cons ((de_var 0)).n da_nil))).n ((de_gint T.g_MOST_COUNTED)).n)))) (dss_one (ds_ret de_bl)) dss_nil) (dss_one (ds_ret (de_all rfl T.n_all (da_cons ((de_lc (own := [("key", 1), ("times", 2)]) rfl sc_is_counts.nd (di_items ((de_varF 0)).n) (by first | (show blkC N_is_counts (defScope s_is_counts) _ _ = true; decide +kernel) | decide +kernel | rfl) (fun _ _ _ _ _ => (dg_any (K := K) rfl (dgs_cons (dg_name 1 sc_is_counts.nd) (dgs_cons (dg_name 2 sc_is_counts.nd) dgs_nil)))) (fun _ _ _ _ _ => dts_nil) (fun _ _ _ _ _ => ((de_and ((de_call h_is_value cg (by decide) passW0 rfl (da_cons ((de_varF 1)).n da_nil))).n (de_one (de_call h_is_integer cg (by decide) passW0 rfl (da_cons ((de_varF 2)).n (da_cons (de_int).n (da_cons ((de_gint T.g_MOST_TIMES)).n da_nil))))))).n))).n da_nil)))))
/-! _law_counts_right -/
abbrev s_law_counts_right : Stmt := top 24
abbrev ps_law_counts_right : List Str := ["_law_box_here"]
abbrev N_law_counts_right : List Str := ["_law_box_here", "_law_good", "_law_lap", "_law_some", "_law_odd", "_law_bent", "_law_thing", "_law_key", "_law_rows", "_law_at", "_law_stood", "_law_due"]
theorem sc_law_counts_right : FnScope N_law_counts_right ps_law_counts_right (defScope s_law_counts_right) := ⟨rfl, rfl, rfl, by decide +kernel, rfl, by decide +kernel, by decide +kernel⟩
def B_law_counts_right : Sl → Out := (sSeq (sSet 1 fDic0) (sSeq (sFor (fun S => ((fCons (frz (fOp oIx (frz (fLst (fCons (frz (fC (.int 0))) (fCons (frz (fC (.int 3))) (fCons (frz (fC (.int 60))) (fCons (frz (fC (.int 61))) (fCons (frz (fCallB F_law_take (fCons (frz (fVar 0)) (fCons (frz (fC (.int 60))) fNil)))) fNil))))))) (frz (fCallB F_law_take (fCons (frz (fVar 0)) (fCons (frz (fC (.int 5))) fNil)))))) fNil) S).bind rng1) (bName 2) (sSeq (sSet 7 (fOp oIx (frz (fLst (fCons (frz (fVarF 2)) (fCons (frz (fOp oSub (frz (fC (.int 999999999))) (frz (fVar 2)))) (fCons (frz (fOp oCat (frz (fOp oRep (frz (fVar 2)) (frz (fC (.int 7919))))) (frz (fC (.int 5))))) fNil))))) (frz (fCallB F_law_take (fCons (frz (fVar 0)) (fCons (frz (fC (.int 3))) fNil)))))) (sPutD 1 (frz (fVar 7)) (frz (fOp oIx (frz (fLst (fCons (frz (fC (.int 0))) (fCons (frz (fC (.int 999))) (fCons (frz (fCallB F_law_take (fCons (frz (fVar 0)) (fCons (frz (fC (.int 1000))) fNil)))) fNil))))) (frz (fOp oMod (frz (fVar 2)) (frz (fC (.int 3)))))))))) (sSeq (sSet 3 (fLst (fCons (frz (fDic1 (frz (fNeg (frz (fC (.int 1))))) (frz (fC (.int 3))))) (fCons (frz (fDic1 (frz (fOp oPow (frz (fC (.int 10))) (frz (fC (.int 9))))) (frz (fC (.int 3))))) (fCons (frz (fDic1 (frz (fC (.str (PySem.Str.ofString "7")))) (frz (fC (.int 3))))) (fCons (frz (fDic1 (frz (fC (.int 7))) (frz (fC (.int 1000))))) (fCons (frz (fDic1 (frz (fC (.int 7))) (frz (fNeg (frz (fC (.int 1))))))) (fCons (frz (fDic1 (frz (fC (.int 7))) (frz (fC (.bl true))))) (fCons (frz (fDic1 (frz (fC (.int 7))) (frz (fC .non)))) (fCons (frz (fDic1 (frz (fC (.int 7))) (frz (fC (.str (PySem.Str.ofString "3")))))) (fCons (frz (fDic1 (frz (fC (.int 7))) (frz (fLst (fCons (frz (fC (.int 3))) fNil))))) fNil))))))))))) (sSeq (sPar [8, 9] (fConsR (fSl (frz (fItemsL (frz (fVar 1)))) (fun S => .ok none S) (fun S => ((frz (fC (.int 60))) S).bind fun n S1 => (iOf n S1).bind fun i S2 => .ok (some i) S2)) (fConsR (fCallB F_law_take (fCons (frz (fVar 0)) (fCons (frz (fOp oCat (frz (fCB cLenA (fCons (frz (fVar 1)) fNil))) (frz (fC (.int 1))))) fNil))) fNilR))) (sSeq (sSet 4 (fItemsL (frz (fOp oIx (frz (fVar 3)) (frz (fCallB F_law_take (fCons (frz (fVar 0)) (fCons (frz (fC (.int 9))) fNil)))))))) (sSeq (sSet 5 (fCB cDict (fCons (frz (fOp oCat (frz (fOp oCat (frz (fSl (frz (fVar 8)) (fun S => .ok none S) (fun S => ((frz (fVar 9)) S).bind fun n S1 => (iOf n S1).bind fun i S2 => .ok (some i) S2))) (frz (fVar 4)))) (frz (fSl (frz (fVar 8)) (fun S => ((frz (fVar 9)) S).bind fun n S1 => (iOf n S1).bind fun i S2 => .ok (some i) S2) (fun S => .ok none S))))) fNil))) (sSeq (sFor (fun S => ((frz (fLst (fCons (frz (fVarF 1)) (fCons (frz (fVarF 5)) (fCons (frz (fCB cDict (fCons (frz (fRevL (frz (fItemsL (frz (fVar 5)))))) fNil))) (fCons (frz (fC .non)) (fCons (frz (fLst fNil)) (fCons (frz (fLst (fCons (frz (fTup (fCons (frz (fC (.int 7))) (fCons (frz (fC (.int 3))) fNil)))) fNil))) (fCons (frz (fC (.str (PySem.Str.ofString "7")))) (fCons (frz (fC (.int 7))) (fCons (frz (fTup fNil)) (fCons (frz (fItemsL (frz (fVar 1)))) (fCons (frz fDic0) fNil))))))))))))) S).bind anyOf) (bName 6) (sSeq (sPar [10, 11] (fConsR (fCB cReprG (fCons (frz (fVar 6)) fNil)) (fConsR (fCall F_law_counted (fCons (frz (fVarF 6)) fNil)) fNilR))) (sIf (fOr (fB (frz (fOp (eqD true) (frz (fCB cReprG (fCons (frz (fLst (fCons (frz (fCall F_is_counts (fCons (frz (fVarF 6)) fNil))) (fCons (frz (fCall F_is_counts (fPick [0] (fCons (frz (fVarF 6)) fNil)))) fNil)))) fNil))) (frz (fCB cReprG (fCons (frz (fLst (fCons (frz (fVarF 11)) (fCons (frz (fVarF 11)) fNil)))) fNil)))))) (fB (frz (fOp (eqD true) (frz (fCB cReprG (fCons (frz (fVar 6)) fNil))) (frz (fVar 10)))))) (sRet (fC (.bl false))) sNext))) (sRet (fC (.bl true))))))))))
def F_law_counts_right : Sl → Rs RV := bodyF0 11 B_law_counts_right
theorem fd_law_counts_right (wd : Wd K mg) (T : Txt w K mg) (h_is_counts : Fd P w K mg base CX0 3 "is_counts" ps_is_counts F_is_counts) (h_law_counted : Fd P w K mg base CX0 1 "_law_counted" ps_law_counted F_law_counted) (h_law_take : Fd P w K mg base CX0 1 "_law_take" ps_law_take F_law_take) : Fd P w K mg base CX0 4 "_law_counts_right" ps_law_counts_right F_law_counts_right :=
  fd_den wd T.t_law_counts_right sc_law_counts_right rfl (fun _ _ _ _ _ _ us hl => match us, hl with | [_], _ => rfl) fun f cdv A outer s H E cg =>
    show DSs _ _ _ B_law_counts_right from (dss_cons (ds_set 1 sc_law_counts_right.nd de_dic0) (dss_cons (ds_for PassesOwn.never rfl (di_range1 T.n_range (da_cons ((de_ix ((de_lst (da_cons (de_int).n (da_cons (de_int).n (da_cons (de_int).n (da_cons (de_int).n (da_cons ((de_callB h_law_take cg (by decide) passW0 rfl (da_cons ((de_var 0)).n (da_cons (de_int).n da_nil)))).n da_nil))))))).n ((de_callB h_law_take cg (by decide) passW0 rfl (da_cons ((de_var 0)).n (da_cons (de_int).n da_nil)))).n)).n da_nil)) (dg_name 2 sc_law_counts_right.nd) (dss_cons (ds_set 7 sc_law_counts_right.nd (de_ix ((de_lst (da_cons ((de_varF 2)).n (da_cons ((de_sub (de_int).n ((de_var 2)).n)).n (da_cons ((de_plus ((de_times ((de_var 2)).n (de_int).n)).n (de_int).n)).n da_nil))))).n ((de_callB h_law_take cg (by decide) passW0 rfl (da_cons ((de_var 0)).n (da_cons (de_int).n da_nil)))).n)) (dss_one (ds_putD cg 1 ((de_ix ((de_lst (da_cons (de_int).n (da_cons (de_int).n (da_cons ((de_callB h_law_take cg (by decide) passW0 rfl (da_cons ((de_var 0)).n (da_cons (de_int).n da_nil)))).n da_nil))))).n ((de_mod ((de_var 2)).n (de_int).n)).n)).n ((de_var 7)).n)))) (dss_cons (ds_set 3 sc_law_counts_right.nd (de_lst (da_cons ((de_dic1 ((de_neg (de_int).n)).n (de_int).n)).n (da_cons ((de_dic1 ((de_pow (de_int).n (de_int).n)).n (de_int).n)).n (da_cons ((de_dic1 (de_str).n (de_int).n)).n (da_cons ((de_dic1 (de_int).n (de_int).n)).n (da_cons ((de_dic1 (de_int).n ((de_neg (de_int).n)).n)).n (da_cons ((de_dic1 (de_int).n (de_bl).n)).n (da_cons ((de_dic1 (de_int).n (de_non).n)).n (da_cons ((de_dic1 (de_int).n (de_str).n)).n (da_cons ((de_dic1 (de_int).n ((de_lst (da_cons (de_int).n da_nil))).n)).n da_nil))))))))))) (dss_cons (ds_par2 8 9 rfl sc_law_counts_right.nd (dar_cons (de_slice ((de_itemsL rfl T.n_list ((de_var 1)).n)).n do_none (do_some (de_int).n)) (dar_cons (de_callB h_law_take cg (by decide) passW0 rfl (da_cons ((de_var 0)).n (da_cons ((de_plus ((de_lenA T.n_len (da_cons ((de_var 1)).n da_nil))).n (de_int).n)).n da_nil))) dar_nil))) (dss_cons (ds_set 4 sc_law_counts_right.nd (de_itemsL rfl T.n_list ((de_ix ((de_var 3)).n ((de_callB h_law_take cg (by decide) passW0 rfl (da_cons ((de_var 0)).n (da_cons (de_int).n da_nil)))).n)).n)) (dss_cons (ds_set 5 sc_law_counts_right.nd (de_dict rfl T.n_dict (da_cons ((de_plus ((de_plus ((de_slice ((de_var 8)).n do_none (do_some ((de_var 9)).n))).n ((de_var 4)).n)).n ((de_slice ((de_var 8)).n (do_some ((de_var 9)).n) do_none)).n)).n da_nil))) (dss_cons (ds_for PassesOwn.never rfl (di_seq ((de_lst (da_cons ((de_varF 1)).n (da_cons ((de_varF 5)).n (da_cons ((de_dict rfl T.n_dict (da_cons ((de_revL ((de_itemsL rfl T.n_list ((de_var 5)).n)).n)).n da_nil))).n (da_cons (de_non).n (da_cons ((de_lst da_nil)).n (da_cons ((de_lst (da_cons ((de_tup (da_cons (de_int).n (da_cons (de_int).n da_nil)))).n da_nil))).n (da_cons (de_str).n (da_cons (de_int).n (da_cons ((de_tup da_nil)).n (da_cons ((de_itemsL rfl T.n_list ((de_var 1)).n)).n (da_cons (de_dic0).n da_nil))))))))))))).n) (dg_name 6 sc_law_counts_right.nd) (dss_cons (ds_par2 10 11 rfl sc_law_counts_right.nd (dar_cons (de_reprG cg T.n_repr (da_cons ((de_var 6)).n da_nil)) (dar_cons (de_call h_law_counted cg (by decide) passW0 rfl (da_cons ((de_varF 6)).n da_nil)) dar_nil))) (dss_one (ds_if (DW.t (dw_or (dt_ne cg ((de_reprG cg T.n_repr (da_cons ((de_lst (da_cons ((de_call h_is_counts cg (by decide) passW0 rfl (da_cons ((de_varF 6)).n da_nil))).n (da_cons ((de_callKw (ks := ["value"]) [0] wd T.t_is_counts h_is_counts cg (by decide) passW0 (fun _ _ _ _ _ _ ws hl => match ws, hl with | [_], _ => rfl) rfl (fun ns hl => match ns, hl with | [_], _ => rfl) (dk_cons ((de_varF 6)).n dk_nil))).n da_nil)))).n da_nil))).n ((de_reprG cg T.n_repr (da_cons ((de_lst (da_cons ((de_varF 11)).n (da_cons ((de_varF 11)).n da_nil)))).n da_nil))).n) (dw_or1 (dt_ne cg ((de_reprG cg T.n_repr (da_cons ((de_var 6)).n da_nil))).n ((de_var 10)).n)))) (dss_one (ds_ret de_bl)) dss_nil)))) (dss_one (ds_ret de_bl)))))))))
/-! _law_word -/
abbrev s_law_word : Stmt := top 18
abbrev ps_law_word : List Str := ["_law_box_here"]
abbrev N_law_word : List Str := ["_law_box_here", "_law_letters", "_law_word_here", "_law_signs", "_law_at", "_law_sign", "_law_k"]
theorem sc_law_word : FnScope N_law_word ps_law_word (defScope s_law_word) := ⟨rfl, rfl, rfl, by decide +kernel, rfl, by decide +kernel, by decide +kernel⟩
def B_law_word : Sl → Out := (sSeq (sSet 1 (fC (.str (PySem.Str.ofString "abcdefghijklmnopqrstuvwxyz")))) (sSeq (sSet 2 (fStrM oJoin (frz (fC (.str (PySem.Str.ofString "")))) (frz (fLc [6] (fun S => ((fCons (frz (fCallB F_law_take (fCons (frz (fVar 0)) (fCons (frz (fC (.int 10))) fNil)))) fNil) S).bind rng1) (bName 6) fYes (frz (fOp oIx (frz (fVar 1)) (frz (fCallB F_law_take (fCons (frz (fVar 0)) (fCons (frz (fC (.int 26))) fNil)))))))))) (sSeq (sIf (fOr (fB (frz (fOp (eqD false) (frz (fCallB F_law_take (fCons (frz (fVar 0)) (fCons (frz (fC (.int 2))) fNil)))) (frz (fC (.int 0)))))) (fB (frz (fOp (eqD false) (frz (fVar 2)) (frz (fC (.str (PySem.Str.ofString "")))))))) (sRet (fVar 2)) sNext) (sSeq (sSet 3 (fC (.str (PySem.Str.ofString " !\"#$&'()*+,-./0123456789:;<=>?@ABCDEFGHIJKLMNOPQRSTUVWXYZ[\\]^_`{|}~")))) (sSeq (sPar [4, 5] (fConsR (fCallB F_law_take (fCons (frz (fVar 0)) (fCons (frz (fCB cLenA (fCons (frz (fVar 2)) fNil))) fNil))) (fConsR (fOp oIx (frz (fOp oCat (frz (fVar 3)) (frz (fC (.str (PySem.Str.ofString "\n")))))) (frz (fCallB F_law_take (fCons (frz (fVar 0)) (fCons (frz (fC (.int 69))) fNil))))) fNilR))) (sRet (fOp oCat (frz (fOp oCat (frz (fSl (frz (fVar 2)) (fun S => .ok none S) (fun S => ((frz (fVar 4)) S).bind fun n S1 => (iOf n S1).bind fun i S2 => .ok (some i) S2))) (frz (fVar 5)))) (frz (fSl (frz (fVar 2)) (fun S => ((frz (fOp oCat (frz (fVar 4)) (frz (fC (.int 1))))) S).bind fun n S1 => (iOf n S1).bind fun i S2 => .ok (some i) S2) (fun S => .ok none S))))))))))
def F_law_word : Sl → Rs RV := bodyF0 6 B_law_word
theorem fd_law_word (wd : Wd K mg) (T : Txt w K mg) (h_law_take : Fd P w K mg base CX0 1 "_law_take" ps_law_take F_law_take) : Fd P w K mg base CX0 2 "_law_word" ps_law_word F_law_word :=
  fd_den wd T.t_law_word sc_law_word rfl (fun _ _ _ _ _ _ us hl => match us, hl with | [_], _ => rfl) fun f cdv A outer s H E cg =>
    show DSs _ _ _ B_law_word from (dss_cons (ds_set 1 sc_law_word.nd de_str) (dss_cons (ds_set 2 sc_law_word.nd (de_join (de_str).n ((de_lc (own := [("_law_k", 6)]) rfl sc_law_word.nd (di_range1 T.n_range (da_cons ((de_callB h_law_take cg (by decide) passW0 rfl (da_cons ((de_var 0)).n (da_cons (de_int).n da_nil)))).n da_nil)) (by first | (show blkC N_law_word (defScope s_law_word) _ _ = true; decide +kernel) | decide +kernel | rfl) (fun _ _ _ _ _ => (dg_name 6 sc_law_word.nd)) (fun _ _ _ _ _ => dts_nil) (fun _ _ _ _ _ => ((de_ix ((de_var 1)).n ((de_callB h_law_take cg (by decide) passW0 rfl (da_cons ((de_var 0)).n (da_cons (de_int).n da_nil)))).n)).n))).n)) (dss_cons (ds_if (DW.t (dw_or (dt_eq cg ((de_callB h_law_take cg (by decide) passW0 rfl (da_cons ((de_var 0)).n (da_cons (de_int).n da_nil)))).n (de_int).n) (dw_or1 (dt_eq cg ((de_var 2)).n (de_str).n)))) (dss_one (ds_ret (de_var 2))) dss_nil) (dss_cons (ds_set 3 sc_law_word.nd de_str) (dss_cons (ds_par2 4 5 rfl sc_law_word.nd (dar_cons (de_callB h_law_take cg (by decide) passW0 rfl (da_cons ((de_var 0)).n (da_cons ((de_lenA T.n_len (da_cons ((de_var 2)).n da_nil))).n da_nil))) (dar_cons (de_ix ((de_plus ((de_var 3)).n (de_str).n)).n ((de_callB h_law_take cg (by decide) passW0 rfl (da_cons ((de_var 0)).n (da_cons (de_int).n da_nil)))).n) dar_nil))) (dss_one (ds_ret (de_plus ((de_plus ((de_slice ((de_var 2)).n do_none (do_some ((de_var 4)).n))).n ((de_var 5)).n)).n ((de_slice ((de_var 2)).n (do_some ((de_plus ((de_var 4)).n (de_int).n)).n) do_none)).n))))))))
/-! is_target -/
abbrev s_is_target : Stmt := top 8
abbrev ps_is_target : List Str := ["value"]
abbrev N_is_target : List Str := ["value"]
theorem sc_is_target : FnScope N_is_target ps_is_target (defScope s_is_target) := ⟨rfl, rfl, rfl, by decide +kernel, rfl, by decide +kernel, by decide +kernel⟩
def B_is_target : Sl → Out := (sRet (fAndV (frz (fCB cIsi (fCons (frz (fVar 0)) (fCons (frz (fC (.ty "str"))) fNil)))) (fAndV (frz (fChain oLt oLe (frz (fC (.int 0))) (frz (fCB cLenA (fCons (frz (fVar 0)) fNil))) (frz (fC (.int 6))))) (fOp (eqD false) (frz (fStrM oStrip (frz (fVarF 0)) (frz (fC (.str (PySem.Str.ofString "abcdefghijklmnopqrstuvwxyz")))))) (frz (fC (.str (PySem.Str.ofString ""))))))))
def F_is_target : Sl → Rs RV := bodyF0 0 B_is_target
theorem fd_is_target (wd : Wd K mg) (T : Txt w K mg)  : Fd P w K mg base CX0 1 "is_target" ps_is_target F_is_target :=
  fd_den wd T.t_is_target sc_is_target rfl (fun _ _ _ _ _ _ us hl => match us, hl with | [_], _ => rfl) fun f cdv A outer s H E cg =>
    show DSs _ _ _ B_is_target from (dss_one (ds_ret (de_and ((de_isi T.n_isinstance (da_cons ((de_var 0)).n (da_cons ((de_bty T.n_str (by decide +kernel))).n da_nil)))).n (de_and ((de_ltle (de_int).n ((de_lenA T.n_len (da_cons ((de_var 0)).n da_nil))).n ((de_gint T.g_LONGEST_TARGET)).n)).n (de_one (de_eq cg ((de_strip ((de_varF 0)).n ((de_gstr T.g_LETTERS)).n)).n (de_str).n))))))
/-! _law_named -/
abbrev s_law_named : Stmt := top 19
abbrev ps_law_named : List Str := ["_law_word_here"]
abbrev N_law_named : List Str := ["_law_word_here", "_law_sign"]
theorem sc_law_named : FnScope N_law_named ps_law_named (defScope s_law_named) := ⟨rfl, rfl, rfl, by decide +kernel, rfl, by decide +kernel, by decide +kernel⟩
def B_law_named : Sl → Out := (sRet (fAndV (frz (fInRg (frz (fCB cLenA (fCons (frz (fVar 0)) fNil))) (fCons (frz (fC (.int 1))) (fCons (frz (fC (.int 7))) fNil)))) (fOp (eqD false) (frz (fLc [1] (fun S => ((frz (fVarF 0)) S).bind txtOf) (bName 1) (fB (frz (fOp (oInS true) (frz (fVar 1)) (frz (fC (.str (PySem.Str.ofString "abcdefghijklmnopqrstuvwxyz"))))))) (frz (fVarF 1)))) (frz (fLst fNil)))))
def F_law_named : Sl → Rs RV := bodyF0 1 B_law_named
theorem fd_law_named (wd : Wd K mg) (T : Txt w K mg)  : Fd P w K mg base CX0 1 "_law_named" ps_law_named F_law_named :=
  fd_den wd T.t_law_named sc_law_named rfl (fun _ _ _ _ _ _ us hl => match us, hl with | [_], _ => rfl) fun f cdv A outer s H E cg =>
    show DSs _ _ _ B_law_named from (dss_one (ds_ret (de_and ((de_inRg T.n_range ((de_lenA T.n_len (da_cons ((de_var 0)).n da_nil))).n (da_cons (de_int).n (da_cons (de_int).n da_nil)))).n (de_one (de_eq cg ((de_lc (own := [("_law_sign", 1)]) rfl sc_law_named.nd (di_str ((de_varF 0)).n) (by first | (show blkC N_law_named (defScope s_law_named) _ _ = true; decide +kernel) | decide +kernel | rfl) (fun _ _ _ _ _ => (dg_name 1 sc_law_named.nd)) (fun _ _ _ _ _ => (dts_one (dt_notInS ((de_var 1)).n (de_str).n))) (fun _ _ _ _ _ => ((de_varF 1)).n))).n ((de_lst da_nil)).n)))))
/-! _law_names_right -/
abbrev s_law_names_right : Stmt := top 20
abbrev ps_law_names_right : List Str := ["_law_box_here"]
abbrev N_law_names_right : List Str := ["_law_box_here", "_law_word_here", "_law_found", "_law_due", "_law_things", "_law_thing"]
theorem sc_law_names_right : FnScope N_law_names_right ps_law_names_right (defScope s_law_names_right) := ⟨rfl, rfl, rfl, by decide +kernel, rfl, by decide +kernel, by decide +kernel⟩
def B_law_names_right : Sl → Out := (sSeq (sSet 1 (fCallB F_law_word (fCons (frz (fVar 0)) fNil))) (sSeq (sSet 2 (fLst (fCons (frz (fCall F_is_target (fCons (frz (fVarF 1)) fNil))) (fCons (frz (fCall F_is_target (fPick [0] (fCons (frz (fVarF 1)) fNil)))) (fCons (frz (fCall F_is_target (fCons (frz (fSl (frz (fVar 1)) (fun S => .ok none S) (fun S => ((frz (fC (.int 6))) S).bind fun n S1 => (iOf n S1).bind fun i S2 => .ok (some i) S2))) fNil))) (fCons (frz (fCall F_is_target (fCons (frz (fOp oCat (frz (fVar 1)) (frz (fC (.str (PySem.Str.ofString "a")))))) fNil))) fNil)))))) (sSeq (sSet 3 (fLst (fCons (frz (fCall F_law_named (fCons (frz (fVarF 1)) fNil))) (fCons (frz (fCall F_law_named (fCons (frz (fVarF 1)) fNil))) (fCons (frz (fCall F_law_named (fCons (frz (fSl (frz (fVar 1)) (fun S => .ok none S) (fun S => ((frz (fC (.int 6))) S).bind fun n S1 => (iOf n S1).bind fun i S2 => .ok (some i) S2))) fNil))) (fCons (frz (fCall F_law_named (fCons (frz (fOp oCat (frz (fVar 1)) (frz (fC (.str (PySem.Str.ofString "a")))))) fNil))) fNil)))))) (sSeq (sSet 4 (fLst (fCons (frz (fC .non)) (fCons (frz (fC (.int 3))) (fCons (frz (fC (.bl true))) (fCons (frz (fLst (fCons (frz (fC (.str (PySem.Str.ofString "a")))) fNil))) (fCons (frz (fTup (fCons (frz (fC (.str (PySem.Str.ofString "a")))) fNil))) (fCons (frz (fDic1 (frz (fC (.str (PySem.Str.ofString "a")))) (frz (fC (.int 1))))) (fCons (frz (fLst fNil)) (fCons (frz (fTup fNil)) (fCons (frz (fMkX "InvalidTarget" "value" (frz (fC (.str (PySem.Str.ofString "a")))))) fNil))))))))))) (sRet (fOp (eqD false) (frz (fCB cReprG (fCons (frz (fOp oCat (frz (fVar 2)) (frz (fLc [5] (fun S => ((frz (fVarF 4)) S).bind anyOf) (bName 5) fYes (frz (fCall F_is_target (fCons (frz (fVarF 5)) fNil))))))) fNil))) (frz (fCB cReprG (fCons (frz (fOp oCat (frz (fVar 3)) (frz (fOp oRep (frz (fLst (fCons (frz (fC (.bl false))) fNil))) (frz (fC (.int 9))))))) fNil)))))))))
def F_law_names_right : Sl → Rs RV := bodyF0 5 B_law_names_right
theorem fd_law_names_right (wd : Wd K mg) (T : Txt w K mg) (h_is_target : Fd P w K mg base CX0 1 "is_target" ps_is_target F_is_target) (h_law_named : Fd P w K mg base CX0 1 "_law_named" ps_law_named F_law_named) (h_law_word : Fd P w K mg base CX0 2 "_law_word" ps_law_word F_law_word) (ho_InvalidTarget : XcOk P w K mg base "InvalidTarget" "LayoutError" "value" sx_InvalidTarget px_InvalidTarget) : Fd P w K mg base CX0 3 "_law_names_right" ps_law_names_right F_law_names_right :=
  fd_den wd T.t_law_names_right sc_law_names_right rfl (fun _ _ _ _ _ _ us hl => match us, hl with | [_], _ => rfl) fun f cdv A outer s H E cg =>
    show DSs _ _ _ B_law_names_right from (dss_cons (ds_set 1 sc_law_names_right.nd (de_callB h_law_word cg (by decide) passW0 rfl (da_cons ((de_var 0)).n da_nil))) (dss_cons (ds_set 2 sc_law_names_right.nd (de_lst (da_cons ((de_call h_is_target cg (by decide) passW0 rfl (da_cons ((de_varF 1)).n da_nil))).n (da_cons ((de_callKw (ks := ["value"]) [0] wd T.t_is_target h_is_target cg (by decide) passW0 (fun _ _ _ _ _ _ ws hl => match ws, hl with | [_], _ => rfl) rfl (fun ns hl => match ns, hl with | [_], _ => rfl) (dk_cons ((de_varF 1)).n dk_nil))).n (da_cons ((de_call h_is_target cg (by decide) passW0 rfl (da_cons ((de_slice ((de_var 1)).n do_none (do_some (de_int).n))).n da_nil))).n (da_cons ((de_call h_is_target cg (by decide) passW0 rfl (da_cons ((de_plus ((de_var 1)).n (de_str).n)).n da_nil))).n da_nil)))))) (dss_cons (ds_set 3 sc_law_names_right.nd (de_lst (da_cons ((de_call h_law_named cg (by decide) passW0 rfl (da_cons ((de_varF 1)).n da_nil))).n (da_cons ((de_call h_law_named cg (by decide) passW0 rfl (da_cons ((de_varF 1)).n da_nil))).n (da_cons ((de_call h_law_named cg (by decide) passW0 rfl (da_cons ((de_slice ((de_var 1)).n do_none (do_some (de_int).n))).n da_nil))).n (da_cons ((de_call h_law_named cg (by decide) passW0 rfl (da_cons ((de_plus ((de_var 1)).n (de_str).n)).n da_nil))).n da_nil)))))) (dss_cons (ds_set 4 sc_law_names_right.nd (de_lst (da_cons (de_non).n (da_cons (de_int).n (da_cons (de_bl).n (da_cons ((de_lst (da_cons (de_str).n da_nil))).n (da_cons ((de_tup (da_cons (de_str).n da_nil))).n (da_cons ((de_dic1 (de_str).n (de_int).n)).n (da_cons ((de_lst da_nil)).n (da_cons ((de_tup da_nil)).n (da_cons ((de_xc T.x_InvalidTarget ho_InvalidTarget cg (by decide) (de_str).n)).n da_nil))))))))))) (dss_one (ds_ret (de_eq cg ((de_reprG cg T.n_repr (da_cons ((de_plus ((de_var 2)).n ((de_lc (own := [("_law_thing", 5)]) rfl sc_law_names_right.nd (di_seq ((de_varF 4)).n) (by first | (show blkC N_law_names_right (defScope s_law_names_right) _ _ = true; decide +kernel) | decide +kernel | rfl) (fun _ _ _ _ _ => (dg_name 5 sc_law_names_right.nd)) (fun _ _ _ _ _ => dts_nil) (fun _ _ _ _ _ => ((de_call h_is_target cg (by decide) passW0 rfl (da_cons ((de_varF 5)).n da_nil))).n))).n)).n da_nil))).n ((de_reprG cg T.n_repr (da_cons ((de_plus ((de_var 3)).n ((de_times ((de_lst (da_cons (de_bl).n da_nil))).n (de_int).n)).n)).n da_nil))).n)))))))
/-! _law_integers_right -/
abbrev s_law_integers_right : Stmt := top 21
abbrev ps_law_integers_right : List Str := ["_law_box_here"]
abbrev N_law_integers_right : List Str := ["_law_box_here", "_law_power", "_law_least", "_law_most", "_law_number", "_law_things", "_law_found", "_law_due", "_law_thing"]
theorem sc_law_integers_right : FnScope N_law_integers_right ps_law_integers_right (defScope s_law_integers_right) := ⟨rfl, rfl, rfl, by decide +kernel, rfl, by decide +kernel, by decide +kernel⟩
def B_law_integers_right : Sl → Out := (sSeq (sSet 1 (fOp oIx (frz (fLst (fCons (frz (fC (.int 1))) (fCons (frz (fOp oPow (frz (fC (.int 10))) (frz (fC (.int 4))))) (fCons (frz (fOp oPow (frz (fC (.int 10))) (frz (fC (.int 11))))) (fCons (frz (fOp oPow (frz (fC (.int 10))) (frz (fC (.int 19))))) (fCons (frz (fOp oRep (frz (fC (.int 4))) (frz (fOp oPow (frz (fC (.int 10))) (frz (fC (.int 26))))))) fNil))))))) (frz (fCallB F_law_take (fCons (frz (fVar 0)) (fCons (frz (fC (.int 5))) fNil)))))) (sSeq (sSet 2 (fOp oCat (frz (fOp oRep (frz (fOp oSub (frz (fCallB F_law_take (fCons (frz (fVar 0)) (fCons (frz (fC (.int 2001))) fNil)))) (frz (fC (.int 1000))))) (frz (fVar 1)))) (frz (fCallB F_law_take (fCons (frz (fVar 0)) (fCons (frz (fC (.int 9))) fNil)))))) (sSeq (sSet 3 (fOp oSub (frz (fOp oCat (frz (fVar 2)) (frz (fOp oRep (frz (fCallB F_law_take (fCons (frz (fVar 0)) (fCons (frz (fOp oIx (frz (fLst (fCons (frz (fC (.int 3))) (fCons (frz (fC (.int 1000))) fNil)))) (frz (fCallB F_law_take (fCons (frz (fVar 0)) (fCons (frz (fC (.int 2))) fNil)))))) fNil)))) (frz (fOp oIx (frz (fLst (fCons (frz (fC (.int 1))) (fCons (frz (fVarF 1)) fNil)))) (frz (fCallB F_law_take (fCons (frz (fVar 0)) (fCons (frz (fC (.int 2))) fNil)))))))))) (frz (fCallB F_law_take (fCons (frz (fVar 0)) (fCons (frz (fC (.int 2))) fNil)))))) (sSeq (sFor (fun S => ((frz (fLst (fCons (frz (fVarF 2)) (fCons (frz (fVarF 3)) (fCons (frz (fOp oSub (frz (fVar 2)) (frz (fC (.int 1))))) (fCons (frz (fOp oCat (frz (fVar 3)) (frz (fC (.int 1))))) (fCons (frz (fOp oDiv (frz (fOp oCat (frz (fVar 2)) (frz (fVar 3)))) (frz (fC (.int 2))))) (fCons (frz (fC (.int 0))) (fCons (frz (fC (.int 1))) (fCons (frz (fOp oSub (frz (fC (.int 0))) (frz (fVar 2)))) fNil)))))))))) S).bind anyOf) (bName 4) (sSeq (sSet 7 (fChain oLe oLe (frz (fVar 2)) (frz (fVar 4)) (frz (fVar 3)))) (sSeq (sSet 6 (fLst (fCons (frz (fCall F_is_integer (fCons (frz (fVarF 4)) (fCons (frz (fVarF 2)) (fCons (frz (fVarF 3)) fNil))))) (fCons (frz (fCall F_is_integer (fPick [0, 2, 1] (fCons (frz (fVarF 4)) (fCons (frz (fVarF 3)) (fCons (frz (fVarF 2)) fNil)))))) fNil)))) (sIf (fB (frz (fOp (eqD true) (frz (fCB cReprG (fCons (frz (fVar 6)) fNil))) (frz (fCB cReprG (fCons (frz (fLst (fCons (frz (fVarF 7)) (fCons (frz (fVarF 7)) fNil)))) fNil)))))) (sRet (fC (.bl false))) sNext)))) (sSeq (sSet 5 (fLst (fCons (frz (fC .non)) (fCons (frz (fCB cStr (fCons (frz (fVar 2)) fNil))) (fCons (frz (fLst (fCons (frz (fVarF 2)) fNil))) (fCons (frz (fTup (fCons (frz (fVarF 2)) fNil))) (fCons (frz (fC (.bl true))) (fCons (frz (fC (.bl false))) (fCons (frz (fDic1 (frz (fVarF 2)) (frz (fVarF 2)))) (fCons (frz (fMkX "InvalidTarget" "value" (frz (fVarF 2)))) fNil)))))))))) (sSeq (sSet 6 (fLc [8] (fun S => ((frz (fVarF 5)) S).bind anyOf) (bName 8) fYes (frz (fCall F_is_integer (fCons (frz (fVarF 8)) (fCons (frz (fCB cMin (fCons (frz (fVar 2)) (fCons (frz (fC (.int 0))) fNil)))) (fCons (frz (fCB cMax (fCons (frz (fVar 3)) (fCons (frz (fC (.int 1))) fNil)))) fNil))))))) (sRet (fOp (eqD false) (frz (fCB cReprG (fCons (frz (fVar 6)) fNil))) (frz (fCB cReprG (fCons (frz (fOp oRep (frz (fLst (fCons (frz (fC (.bl false))) fNil))) (frz (fC (.int 8))))) fNil)))))))))))
def F_law_integers_right : Sl → Rs RV := bodyF0 8 B_law_integers_right
theorem fd_law_integers_right (wd : Wd K mg) (T : Txt w K mg) (h_is_integer : Fd P w K mg base CX0 1 "is_integer" ps_is_integer F_is_integer) (h_law_take : Fd P w K mg base CX0 1 "_law_take" ps_law_take F_law_take) (ho_InvalidTarget : XcOk P w K mg base "InvalidTarget" "LayoutError" "value" sx_InvalidTarget px_InvalidTarget) : Fd P w K mg base CX0 3 "_law_integers_right" ps_law_integers_right F_law_integers_right :=
  fd_den wd T.t_law_integers_right sc_law_integers_right rfl (fun _ _ _ _ _ _ us hl => match us, hl with | [_], _ => rfl) fun f cdv A outer s H E cg =>
    show DSs _ _ _ B_law_integers_right from (dss_cons (ds_set 1 sc_law_integers_right.nd (de_ix ((de_lst (da_cons (de_int).n (da_cons ((de_pow (de_int).n (de_int).n)).n (da_cons ((de_pow (de_int).n (de_int).n)).n (da_cons ((de_pow (de_int).n (de_int).n)).n (da_cons ((de_times (de_int).n ((de_pow (de_int).n (de_int).n)).n)).n da_nil))))))).n ((de_callB h_law_take cg (by decide) passW0 rfl (da_cons ((de_var 0)).n (da_cons (de_int).n da_nil)))).n)) (dss_cons (ds_set 2 sc_law_integers_right.nd (de_plus ((de_times ((de_sub ((de_callB h_law_take cg (by decide) passW0 rfl (da_cons ((de_var 0)).n (da_cons (de_int).n da_nil)))).n (de_int).n)).n ((de_var 1)).n)).n ((de_callB h_law_take cg (by decide) passW0 rfl (da_cons ((de_var 0)).n (da_cons (de_int).n da_nil)))).n)) (dss_cons (ds_set 3 sc_law_integers_right.nd (de_sub ((de_plus ((de_var 2)).n ((de_times ((de_callB h_law_take cg (by decide) passW0 rfl (da_cons ((de_var 0)).n (da_cons ((de_ix ((de_lst (da_cons (de_int).n (da_cons (de_int).n da_nil)))).n ((de_callB h_law_take cg (by decide) passW0 rfl (da_cons ((de_var 0)).n (da_cons (de_int).n da_nil)))).n)).n da_nil)))).n ((de_ix ((de_lst (da_cons (de_int).n (da_cons ((de_varF 1)).n da_nil)))).n ((de_callB h_law_take cg (by decide) passW0 rfl (da_cons ((de_var 0)).n (da_cons (de_int).n da_nil)))).n)).n)).n)).n ((de_callB h_law_take cg (by decide) passW0 rfl (da_cons ((de_var 0)).n (da_cons (de_int).n da_nil)))).n)) (dss_cons (ds_for PassesOwn.never rfl (di_seq ((de_lst (da_cons ((de_varF 2)).n (da_cons ((de_varF 3)).n (da_cons ((de_sub ((de_var 2)).n (de_int).n)).n (da_cons ((de_plus ((de_var 3)).n (de_int).n)).n (da_cons ((de_div ((de_plus ((de_var 2)).n ((de_var 3)).n)).n (de_int).n)).n (da_cons (de_int).n (da_cons (de_int).n (da_cons ((de_sub (de_int).n ((de_var 2)).n)).n da_nil)))))))))).n) (dg_name 4 sc_law_integers_right.nd) (dss_cons (ds_set 7 sc_law_integers_right.nd (de_lele ((de_var 2)).n ((de_var 4)).n ((de_var 3)).n)) (dss_cons (ds_set 6 sc_law_integers_right.nd (de_lst (da_cons ((de_call h_is_integer cg (by decide) passW0 rfl (da_cons ((de_varF 4)).n (da_cons ((de_varF 2)).n (da_cons ((de_varF 3)).n da_nil))))).n (da_cons ((de_callKw (ks := ["value", "high", "low"]) [0, 2, 1] wd T.t_is_integer h_is_integer cg (by decide) passW0 (fun _ _ _ _ _ _ ws hl => match ws, hl with | [_, _, _], _ => rfl) rfl (fun ns hl => match ns, hl with | [_, _, _], _ => rfl) (dk_cons ((de_varF 4)).n (dk_cons ((de_varF 3)).n (dk_cons ((de_varF 2)).n dk_nil))))).n da_nil)))) (dss_one (ds_if (dt_ne cg ((de_reprG cg T.n_repr (da_cons ((de_var 6)).n da_nil))).n ((de_reprG cg T.n_repr (da_cons ((de_lst (da_cons ((de_varF 7)).n (da_cons ((de_varF 7)).n da_nil)))).n da_nil))).n) (dss_one (ds_ret de_bl)) dss_nil))))) (dss_cons (ds_set 5 sc_law_integers_right.nd (de_lst (da_cons (de_non).n (da_cons ((de_strI T.n_str (da_cons ((de_var 2)).n da_nil))).n (da_cons ((de_lst (da_cons ((de_varF 2)).n da_nil))).n (da_cons ((de_tup (da_cons ((de_varF 2)).n da_nil))).n (da_cons (de_bl).n (da_cons (de_bl).n (da_cons ((de_dic1 ((de_varF 2)).n ((de_varF 2)).n)).n (da_cons ((de_xc T.x_InvalidTarget ho_InvalidTarget cg (by decide) ((de_varF 2)).n)).n da_nil)))))))))) (dss_cons (ds_setLc 6 (own := [("_law_thing", 8)]) rfl sc_law_integers_right.nd (di_seq ((de_varF 5)).n) (by first | (show blkC N_law_integers_right (defScope s_law_integers_right) _ _ = true; decide +kernel) | decide +kernel | rfl) (fun _ _ _ _ _ => (dg_name 8 sc_law_integers_right.nd)) (fun _ _ _ _ _ => dts_nil) (fun _ _ _ _ _ => ((de_call h_is_integer cg (by decide) passW0 rfl (da_cons ((de_varF 8)).n (da_cons ((de_min2 rfl T.n_min (da_cons ((de_var 2)).n (da_cons (de_int).n da_nil)))).n (da_cons ((de_max2 rfl T.n_max (da_cons ((de_var 3)).n (da_cons (de_int).n da_nil)))).n da_nil))))).n)) (dss_one (ds_ret (de_eq cg ((de_reprG cg T.n_repr (da_cons ((de_var 6)).n da_nil))).n ((de_reprG cg T.n_repr (da_cons ((de_times ((de_lst (da_cons (de_bl).n da_nil))).n (de_int).n)).n da_nil))).n)))))))))
/-! is_list -/
abbrev s_is_list : Stmt := top 9
abbrev ps_is_list : List Str := ["value"]
abbrev N_is_list : List Str := ["value"]
theorem sc_is_list : FnScope N_is_list ps_is_list (defScope s_is_list) := ⟨rfl, rfl, rfl, by decide +kernel, rfl, by decide +kernel, by decide +kernel⟩
def B_is_list : Sl → Out := (sRet (fIsi2 "list" "tuple" (frz (fVar 0))))
def F_is_list : Sl → Rs RV := bodyF0 0 B_is_list
theorem fd_is_list (wd : Wd K mg) (T : Txt w K mg)  : Fd P w K mg base CX0 1 "is_list" ps_is_list F_is_list :=
  fd_den wd T.t_is_list sc_is_list rfl (fun _ _ _ _ _ _ us hl => match us, hl with | [_], _ => rfl) fun f cdv A outer s H E cg =>
    show DSs _ _ _ B_is_list from (dss_one (ds_ret (de_isi2 (T := "list") (U := "tuple") T.n_isinstance T.n_list T.n_tuple (by decide +kernel) (by decide +kernel) rfl rfl ((de_var 0)).n)))
/-! _law_values_right -/
abbrev s_law_values_right : Stmt := top 22
abbrev ps_law_values_right : List Str := ["_law_box_here"]
abbrev N_law_values_right : List Str := ["_law_box_here", "_law_numbers", "_law_number", "_law_things", "_law_found", "_law_thing"]
theorem sc_law_values_right : FnScope N_law_values_right ps_law_values_right (defScope s_law_values_right) := ⟨rfl, rfl, rfl, by decide +kernel, rfl, by decide +kernel, by decide +kernel⟩
def B_law_values_right : Sl → Out := (sSeq (sSet 1 (fLst (fCons (frz (fC (.int 0))) (fCons (frz (fC (.int 999999999))) (fCons (frz (fOp oPow (frz (fC (.int 10))) (frz (fC (.int 9))))) (fCons (frz (fNeg (frz (fC (.int 1))))) (fCons (frz (fCallB F_law_take (fCons (frz (fVar 0)) (fCons (frz (fOp oPow (frz (fC (.int 10))) (frz (fC (.int 8))))) fNil)))) fNil))))))) (sSeq (sSet 1 (fOp oCat (frz (fVar 1)) (frz (fLst (fCons (frz (fOp oRep (frz (fCallB F_law_take (fCons (frz (fVar 0)) (fCons (frz (fC (.int 1000))) fNil)))) (frz (fOp oPow (frz (fC (.int 10))) (frz (fC (.int 26))))))) (fCons (frz (fOp oSub (frz (fC (.int 0))) (frz (fCallB F_law_take (fCons (frz (fVar 0)) (fCons (frz (fC (.int 9))) fNil)))))) fNil)))))) (sSeq (sFor (fun S => ((frz (fVarF 1)) S).bind anyOf) (bName 2) (sIf (fB (frz (fOp (eqD true) (frz (fCB cReprG (fCons (frz (fLst (fCons (frz (fCall F_is_value (fCons (frz (fVarF 2)) fNil))) (fCons (frz (fCall F_is_value (fPick [0] (fCons (frz (fVarF 2)) fNil)))) fNil)))) fNil))) (frz (fCB cReprG (fCons (frz (fOp oRep (frz (fLst (fCons (frz (fChain oLe oLt (frz (fC (.int 0))) (frz (fVar 2)) (frz (fOp oPow (frz (fC (.int 10))) (frz (fC (.int 9))))))) fNil))) (frz (fC (.int 2))))) fNil)))))) (sRet (fC (.bl false))) sNext)) (sSeq (sSet 3 (fLst (fCons (frz (fC .non)) (fCons (frz (fC (.bl true))) (fCons (frz (fC (.bl false))) (fCons (frz (fC (.str (PySem.Str.ofString "0")))) (fCons (frz (fLst (fCons (frz (fC (.int 5))) fNil))) (fCons (frz (fTup (fCons (frz (fC (.int 5))) fNil))) (fCons (frz (fDic1 (frz (fC (.int 5))) (frz (fC (.int 5))))) (fCons (frz fDic0) (fCons (frz (fMkX "InvalidTarget" "value" (frz (fC (.int 5))))) fNil))))))))))) (sSeq (sIf (fB (frz (fOp (eqD true) (frz (fCB cReprG (fCons (frz (fLc [5] (fun S => ((frz (fVarF 3)) S).bind anyOf) (bName 5) fYes (frz (fCall F_is_value (fCons (frz (fVarF 5)) fNil))))) fNil))) (frz (fCB cReprG (fCons (frz (fOp oRep (frz (fLst (fCons (frz (fC (.bl false))) fNil))) (frz (fC (.int 9))))) fNil)))))) (sRet (fC (.bl false))) sNext) (sSeq (sSet 4 (fOp oCat (frz (fLc [5] (fun S => ((frz (fOp oCat (frz (fVar 3)) (frz (fLst (fCons (frz (fLst fNil)) (fCons (frz (fTup fNil)) (fCons (frz (fVarF 1)) (fCons (frz (fCB cTuple (fCons (frz (fVar 1)) fNil))) (fCons (frz (fC (.int 7))) fNil))))))))) S).bind anyOf) (bName 5) fYes (frz (fCall F_is_list (fCons (frz (fVarF 5)) fNil))))) (frz (fLst (fCons (frz (fCall F_is_list (fPick [0] (fCons (frz (fLst fNil)) fNil)))) fNil))))) (sRet (fOp (eqD false) (frz (fCB cReprG (fCons (frz (fVar 4)) fNil))) (frz (fCB cReprG (fCons (frz (fOp oCat (frz (fOp oCat (frz (fOp oCat (frz (fOp oCat (frz (fOp oRep (frz (fLst (fCons (frz (fC (.bl false))) fNil))) (frz (fC (.int 4))))) (frz (fLst (fCons (frz (fC (.bl true))) (fCons (frz (fC (.bl true))) fNil)))))) (frz (fOp oRep (frz (fLst (fCons (frz (fC (.bl false))) fNil))) (frz (fC (.int 3))))))) (frz (fOp oRep (frz (fLst (fCons (frz (fC (.bl true))) fNil))) (frz (fC (.int 4))))))) (frz (fLst (fCons (frz (fC (.bl false))) (fCons (frz (fC (.bl true))) fNil)))))) fNil)))))))))))
def F_law_values_right : Sl → Rs RV := bodyF0 5 B_law_values_right
theorem fd_law_values_right (wd : Wd K mg) (T : Txt w K mg) (h_is_list : Fd P w K mg base CX0 1 "is_list" ps_is_list F_is_list) (h_is_value : Fd P w K mg base CX0 2 "is_value" ps_is_value F_is_value) (h_law_take : Fd P w K mg base CX0 1 "_law_take" ps_law_take F_law_take) (ho_InvalidTarget : XcOk P w K mg base "InvalidTarget" "LayoutError" "value" sx_InvalidTarget px_InvalidTarget) : Fd P w K mg base CX0 3 "_law_values_right" ps_law_values_right F_law_values_right :=
  fd_den wd T.t_law_values_right sc_law_values_right rfl (fun _ _ _ _ _ _ us hl => match us, hl with | [_], _ => rfl) fun f cdv A outer s H E cg =>
    show DSs _ _ _ B_law_values_right from (dss_cons (ds_set 1 sc_law_values_right.nd (de_lst (da_cons (de_int).n (da_cons (de_int).n (da_cons ((de_pow (de_int).n (de_int).n)).n (da_cons ((de_neg (de_int).n)).n (da_cons ((de_callB h_law_take cg (by decide) passW0 rfl (da_cons ((de_var 0)).n (da_cons ((de_pow (de_int).n (de_int).n)).n da_nil)))).n da_nil))))))) (dss_cons (ds_set 1 sc_law_values_right.nd (de_plus ((de_var 1)).n ((de_lst (da_cons ((de_times ((de_callB h_law_take cg (by decide) passW0 rfl (da_cons ((de_var 0)).n (da_cons (de_int).n da_nil)))).n ((de_pow (de_int).n (de_int).n)).n)).n (da_cons ((de_sub (de_int).n ((de_callB h_law_take cg (by decide) passW0 rfl (da_cons ((de_var 0)).n (da_cons (de_int).n da_nil)))).n)).n da_nil)))).n)) (dss_cons (ds_for PassesOwn.never rfl (di_seq ((de_varF 1)).n) (dg_name 2 sc_law_values_right.nd) (dss_one (ds_if (dt_ne cg ((de_reprG cg T.n_repr (da_cons ((de_lst (da_cons ((de_call h_is_value cg (by decide) passW0 rfl (da_cons ((de_varF 2)).n da_nil))).n (da_cons ((de_callKw (ks := ["value"]) [0] wd T.t_is_value h_is_value cg (by decide) passW0 (fun _ _ _ _ _ _ ws hl => match ws, hl with | [_], _ => rfl) rfl (fun ns hl => match ns, hl with | [_], _ => rfl) (dk_cons ((de_varF 2)).n dk_nil))).n da_nil)))).n da_nil))).n ((de_reprG cg T.n_repr (da_cons ((de_times ((de_lst (da_cons ((de_lelt (de_int).n ((de_var 2)).n ((de_pow (de_int).n (de_int).n)).n)).n da_nil))).n (de_int).n)).n da_nil))).n) (dss_one (ds_ret de_bl)) dss_nil))) (dss_cons (ds_set 3 sc_law_values_right.nd (de_lst (da_cons (de_non).n (da_cons (de_bl).n (da_cons (de_bl).n (da_cons (de_str).n (da_cons ((de_lst (da_cons (de_int).n da_nil))).n (da_cons ((de_tup (da_cons (de_int).n da_nil))).n (da_cons ((de_dic1 (de_int).n (de_int).n)).n (da_cons (de_dic0).n (da_cons ((de_xc T.x_InvalidTarget ho_InvalidTarget cg (by decide) (de_int).n)).n da_nil))))))))))) (dss_cons (ds_if (dt_ne cg ((de_reprG cg T.n_repr (da_cons ((de_lc (own := [("_law_thing", 5)]) rfl sc_law_values_right.nd (di_seq ((de_varF 3)).n) (by first | (show blkC N_law_values_right (defScope s_law_values_right) _ _ = true; decide +kernel) | decide +kernel | rfl) (fun _ _ _ _ _ => (dg_name 5 sc_law_values_right.nd)) (fun _ _ _ _ _ => dts_nil) (fun _ _ _ _ _ => ((de_call h_is_value cg (by decide) passW0 rfl (da_cons ((de_varF 5)).n da_nil))).n))).n da_nil))).n ((de_reprG cg T.n_repr (da_cons ((de_times ((de_lst (da_cons (de_bl).n da_nil))).n (de_int).n)).n da_nil))).n) (dss_one (ds_ret de_bl)) dss_nil) (dss_cons (ds_set 4 sc_law_values_right.nd (de_plus ((de_lc (own := [("_law_thing", 5)]) rfl sc_law_values_right.nd (di_seq ((de_plus ((de_var 3)).n ((de_lst (da_cons ((de_lst da_nil)).n (da_cons ((de_tup da_nil)).n (da_cons ((de_varF 1)).n (da_cons ((de_tuple T.n_tuple (da_cons ((de_var 1)).n da_nil))).n (da_cons (de_int).n da_nil))))))).n)).n) (by first | (show blkC N_law_values_right (defScope s_law_values_right) _ _ = true; decide +kernel) | decide +kernel | rfl) (fun _ _ _ _ _ => (dg_name 5 sc_law_values_right.nd)) (fun _ _ _ _ _ => dts_nil) (fun _ _ _ _ _ => ((de_call h_is_list cg (by decide) passW0 rfl (da_cons ((de_varF 5)).n da_nil))).n))).n ((de_lst (da_cons ((de_callKw (ks := ["value"]) [0] wd T.t_is_list h_is_list cg (by decide) passW0 (fun _ _ _ _ _ _ ws hl => match ws, hl with | [_], _ => rfl) rfl (fun ns hl => match ns, hl with | [_], _ => rfl) (dk_cons ((de_lst da_nil)).n dk_nil))).n da_nil))).n)) (dss_one (ds_ret (de_eq cg ((de_reprG cg T.n_repr (da_cons ((de_var 4)).n da_nil))).n ((de_reprG cg T.n_repr (da_cons ((de_plus ((de_plus ((de_plus ((de_plus ((de_times ((de_lst (da_cons (de_bl).n da_nil))).n (de_int).n)).n ((de_lst (da_cons (de_bl).n (da_cons (de_bl).n da_nil)))).n)).n ((de_times ((de_lst (da_cons (de_bl).n da_nil))).n (de_int).n)).n)).n ((de_times ((de_lst (da_cons (de_bl).n da_nil))).n (de_int).n)).n)).n ((de_lst (da_cons (de_bl).n (da_cons (de_bl).n da_nil)))).n)).n da_nil))).n)))))))))
/-! law -/
abbrev s_law : Stmt := top 25
abbrev ps_law : List Str := ["_law_script"]
abbrev N_law : List Str := ["_law_script", "_law_k", "_law_box_here", "_law_turn"]
theorem sc_law : FnScope N_law ps_law (defScope s_law) := ⟨rfl, rfl, rfl, by decide +kernel, rfl, by decide +kernel, by decide +kernel⟩
def B_law : Sl → Out := (sSeq (sFor (fun S => ((fCons (frz (fCB cMax (fCons (frz (fC (.int 2))) (fCons (frz (fCB cMin (fCons (frz (fC (.int 8))) (fCons (frz (fCB cLenA (fCons (frz (fVar 0)) fNil))) fNil)))) fNil)))) fNil) S).bind rng1) (bName 1) (sSeq (sSet 2 (fCall F_law_box (fCons (frz (fCall F_law_cell (fCons (frz (fVarF 0)) (fCons (frz (fVarF 1)) fNil)))) fNil))) (sFor (fun S => ((fCons (frz (fC (.int 4))) fNil) S).bind rng1) (bName 3) (sSeq (sIf (fNot (fB (frz (fCallB F_law_counts_right (fCons (frz (fVar 2)) fNil))))) (sRet (fC (.bl false))) sNext) (sIf (fOr (fNot (fB (frz (fCallB F_law_names_right (fCons (frz (fVar 2)) fNil))))) (fOr (fNot (fB (frz (fCallB F_law_integers_right (fCons (frz (fVar 2)) fNil))))) (fNot (fB (frz (fCallB F_law_values_right (fCons (frz (fVar 2)) fNil))))))) (sRet (fC (.bl false))) sNext))))) (sRet (fC (.bl true))))
def F_law : Sl → Rs RV := bodyF0 3 B_law
theorem fd_law (wd : Wd K mg) (T : Txt w K mg) (h_law_values_right : Fd P w K mg base CX0 3 "_law_values_right" ps_law_values_right F_law_values_right) (h_law_integers_right : Fd P w K mg base CX0 3 "_law_integers_right" ps_law_integers_right F_law_integers_right) (h_law_names_right : Fd P w K mg base CX0 3 "_law_names_right" ps_law_names_right F_law_names_right) (h_law_counts_right : Fd P w K mg base CX0 4 "_law_counts_right" ps_law_counts_right F_law_counts_right) (h_law_cell : Fd P w K mg base CX0 1 "_law_cell" ps_law_cell F_law_cell) (h_law_box : Fd P w K mg base CX0 1 "_law_box" ps_law_box F_law_box) : Fd P w K mg base CX0 5 "law" ps_law F_law :=
  fd_den wd T.t_law sc_law rfl (fun _ _ _ _ _ _ us hl => match us, hl with | [_], _ => rfl) fun f cdv A outer s H E cg =>
    show DSs _ _ _ B_law from (dss_cons (ds_for PassesOwn.never rfl (di_range1 T.n_range (da_cons ((de_max2 rfl T.n_max (da_cons (de_int).n (da_cons ((de_min2 rfl T.n_min (da_cons (de_int).n (da_cons ((de_lenA T.n_len (da_cons ((de_var 0)).n da_nil))).n da_nil)))).n da_nil)))).n da_nil)) (dg_name 1 sc_law.nd) (dss_cons (ds_set 2 sc_law.nd (de_call h_law_box cg (by decide) passW0 rfl (da_cons ((de_call h_law_cell cg (by decide) passW0 rfl (da_cons ((de_varF 0)).n (da_cons ((de_varF 1)).n da_nil)))).n da_nil))) (dss_one (ds_for PassesOwn.never rfl (di_range1 T.n_range (da_cons (de_int).n da_nil)) (dg_name 3 sc_law.nd) (dss_cons (ds_if (dt_not (dt_val ((de_callB h_law_counts_right cg (by decide) passW0 rfl (da_cons ((de_var 2)).n da_nil))).n)) (dss_one (ds_ret de_bl)) dss_nil) (dss_one (ds_if (DW.t (dw_or (dt_not (dt_val ((de_callB h_law_names_right cg (by decide) passW0 rfl (da_cons ((de_var 2)).n da_nil))).n)) (dw_or (dt_not (dt_val ((de_callB h_law_integers_right cg (by decide) passW0 rfl (da_cons ((de_var 2)).n da_nil))).n)) (dw_or1 (dt_not (dt_val ((de_callB h_law_values_right cg (by decide) passW0 rfl (da_cons ((de_var 2)).n da_nil))).n)))))) (dss_one (ds_ret de_bl)) dss_nil))))))) (dss_one (ds_ret de_bl)))
/-! all together -/
theorem fd_all (wd : Wd K mg) (T : Txt w K mg) : Fd P w K mg base CX0 5 "law" ps_law F_law :=
  have h_law_box := fd_law_box (P := P) (w := w) (base := base) wd T 
  have h_law_cell := fd_law_cell (P := P) (w := w) (base := base) wd T 
  have h_law_take := fd_law_take (P := P) (w := w) (base := base) wd T 
  have h_law_counted := fd_law_counted (P := P) (w := w) (base := base) wd T 
  have h_is_integer := fd_is_integer (P := P) (w := w) (base := base) wd T 
  have h_is_value := fd_is_value (P := P) (w := w) (base := base) wd T h_is_integer
  have h_is_counts := fd_is_counts (P := P) (w := w) (base := base) wd T h_is_integer h_is_value
  have h_law_counts_right := fd_law_counts_right (P := P) (w := w) (base := base) wd T h_is_counts h_law_counted h_law_take
  have h_law_word := fd_law_word (P := P) (w := w) (base := base) wd T h_law_take
  have h_is_target := fd_is_target (P := P) (w := w) (base := base) wd T 
  have h_law_named := fd_law_named (P := P) (w := w) (base := base) wd T 
  have h_law_names_right := fd_law_names_right (P := P) (w := w) (base := base) wd T h_is_target h_law_named h_law_word ho_InvalidTarget
  have h_law_integers_right := fd_law_integers_right (P := P) (w := w) (base := base) wd T h_is_integer h_law_take ho_InvalidTarget
  have h_is_list := fd_is_list (P := P) (w := w) (base := base) wd T 
  have h_law_values_right := fd_law_values_right (P := P) (w := w) (base := base) wd T h_is_list h_is_value h_law_take ho_InvalidTarget
  have h_law := fd_law (P := P) (w := w) (base := base) wd T h_law_values_right h_law_integers_right h_law_names_right h_law_counts_right h_law_cell h_law_box
  h_law
end
end DL
set_option Elab.async false
set_option linter.all false
set_option maxRecDepth 100000
set_option maxHeartbeats 4000000
namespace DL
open PySem L2
local macro_rules | `(tactic| solve | $a:tacticSeq | $b:tacticSeq $[| $ts:tacticSeq]*) => `(tactic| solve | $b $[| $ts]*)
local macro_rules | `(tactic| solve | $a:tacticSeq $[| $ts:tacticSeq]*) => `(tactic| first | ($a) | fail)
local macro_rules | `(tactic| tm_at "dlw") => `(tactic| first | (((with_reducible show GG (wp (kPop _ _ _ _ _) _)); first | (refine G_i_Pop (by exact rfl) (by (first | omega | decide | assumption | (exact decide_eq_true (by omega)) | (exact Nat.le_of_ble_eq_true rfl) | exact rfl)) ?_))) | fail)
local macro_rules | `(tactic| tm_at "dlw") => `(tactic| first | (((with_reducible show GG (wp (kExtend _ _ _ _ _) _)); first | (refine G_i_Ext (by exact rfl) (by (first | omega | decide | assumption | (exact decide_eq_true (by omega)) | (exact Nat.le_of_ble_eq_true rfl) | exact rfl)) ?_))) | fail)
local macro_rules | `(tactic| tm_at "dlw") => `(tactic| first | (((with_reducible show GG (wp (kAppend _ _ _ _ _) _)); first | (refine G_i_App (by exact rfl) (by (first | omega | decide | assumption | (exact decide_eq_true (by omega)) | (exact Nat.le_of_ble_eq_true rfl) | exact rfl)) ?_))) | fail)
local macro_rules | `(tactic| tm_at "dlw") => `(tactic| first | (((with_reducible show GG (wp (rng2 _ _) _)); first | (refine G_i_rng2 (by exact rfl) (by (first | omega | decide | assumption | (exact decide_eq_true (by omega)) | (exact Nat.le_of_ble_eq_true rfl) | exact rfl)) ?_))) | fail)
local macro_rules | `(tactic| tm_at "dlw") => `(tactic| first | (((with_reducible show GG (wp (rng1 _ _) _)); first | (refine G_i_rng1 (by exact rfl) (by (first | omega | decide | assumption | (exact decide_eq_true (by omega)) | (exact Nat.le_of_ble_eq_true rfl) | exact rfl)) ?_))) | fail)
local macro_rules | `(tactic| tm_at "dlw") => `(tactic| first | (((with_reducible show GG (wp (zipOf _ _) _)); first | (refine G_i_zip (by exact rfl) ?_))) | fail)
local macro_rules | `(tactic| tm_at "dlw") => `(tactic| first | (((with_reducible show GG (wp (numOfA _ _) _)); first | (refine G_i_numL (by exact rfl) ?_) | (refine G_i_numT (by exact rfl) ?_))) | fail)
local macro_rules | `(tactic| tm_at "dlw") => `(tactic| first | (((with_reducible show GG (wp (itemsOf _ _) _)); first | (refine G_i_items (by exact rfl) ?_))) | fail)
local macro_rules | `(tactic| tm_at "dlw") => `(tactic| first | (((with_reducible show GG (wp (anyOf _ _) _)); first | (refine G_i_anyL (by exact rfl) ?_) | (refine G_i_anyT (by exact rfl) ?_))) | fail)
local macro_rules | `(tactic| tm_at "dlw") => `(tactic| first | (((with_reducible show GG (wp (iOf _ _) _)); first | (refine G_i_iOf (by exact rfl) ?_))) | fail)
local macro_rules | `(tactic| tm_at "dlw") => `(tactic| first | (((with_reducible show GG (wp (fIsi2 _ _ _ _) _)); with_reducible first | (refine G_i_isLT ?_))) | fail)
local macro_rules | `(tactic| tm_at "dlw") => `(tactic| first | (((with_reducible show GG (wp (fOwn _ _ _ _) _)); first | (refine G_i_Own (by exact rfl) ?_))) | fail)
local macro_rules | `(tactic| tm_at "dlw") => `(tactic| first | (((with_reducible show GG (wp (fInT _ _ _ _) _)); with_reducible refine gg_eq wp_InTE ?_)) | fail)
local macro_rules | `(tactic| tm_at "dlw") => `(tactic| first | (((with_reducible show GG (wp (fLc _ _ _ _ _ _) _)); with_reducible refine gg_eq wp_Lc ?_)) | fail)
local macro_rules | `(tactic| tm_at "dlw") => `(tactic| first | (((with_reducible show GG (wp (fPick _ _ _) _)); with_reducible refine gg_eq wp_Pick ?_)) | fail)
local macro_rules | `(tactic| tm_at "dlw") => `(tactic| first | (((with_reducible show GG (wp (fStarL _ _ _) _)); with_reducible refine gg_eq wp_StarL ?_)) | fail)
local macro_rules | `(tactic| tm_at "dlw") => `(tactic| first | (((with_reducible show GG (wp (fSetd _ _ _ _) _)); with_reducible refine gg_eq wp_Setd ?_)) | fail)
local macro_rules | `(tactic| tm_at "dlw") => `(tactic| first | (((with_reducible show GG (wp (fGet2 _ _ _ _) _)); with_reducible refine gg_eq wp_Get2 ?_)) | fail)
local macro_rules | `(tactic| tm_at "dlw") => `(tactic| first | (((with_reducible show GG (wp (fGet1 _ _ _) _)); with_reducible refine gg_eq wp_Get1 ?_)) | fail)
local macro_rules | `(tactic| tm_at "dlw") => `(tactic| first | (((with_reducible show GG (wp (fListRg _ _ _) _)); with_reducible refine gg_eq wp_ListRg ?_)) | fail)
local macro_rules | `(tactic| tm_at "dlw") => `(tactic| first | (((with_reducible show GG (wp (fSortedSetG _ _) _)); with_reducible refine gg_eq wp_SortedSetG ?_)) | fail)
local macro_rules | `(tactic| tm_at "dlw") => `(tactic| first | (((with_reducible show GG (wp (fListVals _ _) _)); with_reducible refine gg_eq wp_ListVals ?_)) | fail)
local macro_rules | `(tactic| tm_at "dlw") => `(tactic| first | (((with_reducible show GG (wp (fSortedSet _ _) _)); with_reducible refine gg_eq wp_SortedSet ?_)) | fail)
local macro_rules | `(tactic| tm_at "dlw") => `(tactic| first | (((with_reducible show GG (wp (fNeg _ _) _)); with_reducible refine gg_eq wp_Neg ?_)) | fail)
local macro_rules | `(tactic| tm_at "dlw") => `(tactic| first | (((with_reducible show GG (wp (fDisp _ _ _ _) _)); with_reducible refine gg_eq wp_DispE ?_)) | fail)
local macro_rules | `(tactic| tm_at "dlw") => `(tactic| first | (((with_reducible show GG (wp (fNilR _) _)); with_reducible refine gg_eq wp_nilR ?_)) | fail)
local macro_rules | `(tactic| tm_at "dlw") => `(tactic| first | (((with_reducible show GG (wp (fConsR _ _ _) _)); with_reducible refine gg_eq wp_consR ?_)) | fail)
local macro_rules | `(tactic| tm_at "dlw") => `(tactic| first | (((with_reducible show GG (wp (fSl _ _ _ _) _)); with_reducible refine gg_eq wp_Sl ?_)) | fail)
local macro_rules | `(tactic| tm_at "dlw") => `(tactic| first | (((with_reducible show GG (wp (fStrM _ _ _ _) _)); with_reducible refine gg_eq wp_StrM ?_)) | fail)
local macro_rules | `(tactic| tm_at "dlw") => `(tactic| first | (((with_reducible show GG (wp (fYes _) _)); with_reducible refine gg_eq wp_Yes ?_)) | fail)
local macro_rules | `(tactic| tm_at "dlw") => `(tactic| first | (((with_reducible show GG (wp (fTup _ _) _)); with_reducible refine gg_eq wp_Tup ?_)) | fail)
local macro_rules | `(tactic| tm_at "dlw") => `(tactic| first | (((with_reducible show GG (wp (fLst _ _) _)); with_reducible refine gg_eq wp_Lst ?_)) | fail)
local macro_rules | `(tactic| tm_at "dlw") => `(tactic| first | (((with_reducible show GG (wp (fChain _ _ _ _ _ _) _)); with_reducible refine gg_eq wp_Chain ?_)) | fail)
local macro_rules | `(tactic| tm_at "dlw") => `(tactic| first | (((with_reducible show GG (wp (fNotV _ _) _)); with_reducible refine gg_eq wp_NotV ?_)) | fail)
local macro_rules | `(tactic| tm_at "dlw") => `(tactic| first | (((with_reducible show GG (wp (fOrV _ _ _) _)); with_reducible refine gg_eq wp_OrV ?_)) | fail)
local macro_rules | `(tactic| tm_at "dlw") => `(tactic| first | (((with_reducible show GG (wp (fAndV _ _ _) _)); with_reducible refine gg_eq wp_AndV ?_)) | fail)
local macro_rules | `(tactic| tm_at "dlw") => `(tactic| first | (((with_reducible show GG (wp (fNot _ _) _)); with_reducible refine gg_eq wp_Not ?_)) | fail)
local macro_rules | `(tactic| tm_at "dlw") => `(tactic| first | (((with_reducible show GG (wp (fOr _ _ _) _)); with_reducible refine gg_eq wp_Or ?_)) | fail)
local macro_rules | `(tactic| tm_at "dlw") => `(tactic| first | (((with_reducible show GG (wp (fAnd _ _ _) _)); with_reducible refine gg_eq wp_And ?_)) | fail)
local macro_rules | `(tactic| tm_at "dlw") => `(tactic| first | (((with_reducible show GG (wp (fIf _ _ _ _) _)); with_reducible refine gg_eq wp_If ?_)) | fail)
local macro_rules | `(tactic| tm_at "dlw") => `(tactic| first | (((with_reducible show GG (wp (Rs.ok _ _) _)); with_reducible refine gg_eq wp_ok ?_)) | fail)
local macro_rules | `(tactic| tm_at "dlw") => `(tactic| first | (((with_reducible show GG (wp (Rs.bind _ _) _)); with_reducible refine gg_eq wp_bind ?_)) | fail)
local macro_rules | `(tactic| tm_at "dlw") => `(tactic| first | (((with_reducible show GG (wp (fCall _ _ _) _)); with_reducible refine gg_eq wp_CallE ?_)) | fail)
local macro_rules | `(tactic| tm_at "dlw") => `(tactic| first | (((with_reducible show GG (wp (fCallB _ _ _) _)); with_reducible refine gg_eq wp_CallBE ?_)) | fail)
local macro_rules | `(tactic| tm_at "dlw") => `(tactic| first | (((with_reducible show GG (wp (fCB _ _ _) _)); with_reducible refine gg_eq wp_cb ?_)) | fail)
local macro_rules | `(tactic| tm_at "dlw") => `(tactic| first | (((with_reducible show GG (wp (fB _ _) _)); with_reducible refine gg_eq wp_B ?_)) | fail)
local macro_rules | `(tactic| tm_at "dlw") => `(tactic| first | (((with_reducible show GG (wp (fVarF _ _) _)); first | (refine G_i_VarF (by exact rfl) ?_) | (refine G_i_VarFL (by exact rfl) ?_) | (refine G_i_VarFD (by exact rfl) ?_))) | fail)
local macro_rules | `(tactic| tm_at "dlw") => `(tactic| first | (((with_reducible show GG (wp (bOf _ _) _)); first | (refine G_i_bOf (by exact rfl) ?_))) | fail)
local macro_rules | `(tactic| tm_at "dlw") => `(tactic| first | (((with_reducible show GG (wp (fNil _) _)); with_reducible refine gg_eq wp_nil ?_)) | fail)
local macro_rules | `(tactic| tm_at "dlw") => `(tactic| first | (((with_reducible show GG (wp (fCons _ _ _) _)); with_reducible refine gg_eq wp_cons ?_)) | fail)
local macro_rules | `(tactic| tm_at "dlw") => `(tactic| first | (((with_reducible show GG (wp (fVar _ _) _)); first | (refine G_i_Var (by exact rfl) ?_) | (refine G_i_VarL (by exact rfl) ?_) | (refine G_i_VarD (by exact rfl) ?_))) | fail)
local macro_rules | `(tactic| tm_at "dlw") => `(tactic| first | (((with_reducible show GG (wp (fC _ _) _)); with_reducible refine gg_eq wp_C ?_)) | fail)
local macro_rules | `(tactic| tm_at "dlw") => `(tactic| first | (((with_reducible show GG (wp (fOp _ _ _ _) _)); with_reducible refine gg_eq wp_op ?_)) | fail)
local macro_rules | `(tactic| tm_at "dlw") => `(tactic| first | (((with_reducible show GG (wp (frz _ _) _)); with_reducible refine gg_eq wp_frz ?_)) | fail)
local macro_rules | `(tactic| tm_at "dlo") => `(tactic| first | (refine G_oP_c (by (first | omega | decide | assumption | (exact decide_eq_true (by omega)) | (exact Nat.le_of_ble_eq_true rfl) | exact rfl)) ?_) | fail)
local macro_rules | `(tactic| tm_at "dlo") => `(tactic| first | (refine G_oP_i (by exact rfl) ?_) | fail)
local macro_rules | `(tactic| tm_at "dlo") => `(tactic| first | (((with_reducible show GG (oP (oSl (D.tup (_ :: _)) (some 1) none) _)); first | (with_reducible refine G_i_tail ?_))) | fail)
local macro_rules | `(tactic| tm_at "dlo") => `(tactic| first | (((with_reducible show GG (oP (oStrip (D.str _) (D.str _)) _)); first | (refine G_i_strip (by (first | omega | decide | assumption | (exact decide_eq_true (by omega)) | (exact Nat.le_of_ble_eq_true rfl) | exact rfl)) ?_))) | fail)
local macro_rules | `(tactic| tm_at "dlo") => `(tactic| first | (((with_reducible show GG (oP (cLenA _) _)); first | (refine G_i_lenS (by exact rfl) (by (first | omega | decide | assumption | (exact decide_eq_true (by omega)) | (exact Nat.le_of_ble_eq_true rfl) | exact rfl)) ?_) | (refine G_oP_i (by exact rfl) ?_))) | fail)
local macro_rules | `(tactic| tm_at "dlo") => `(tactic| first | (((with_reducible show GG (oP (cIsi _) _)); first | (with_reducible refine G_i_isInt (by exact rfl) ?_) | (with_reducible refine G_i_isBool (by exact rfl) ?_) | (with_reducible refine G_i_isStr (by exact rfl) ?_) | (with_reducible refine G_i_isLst (by exact rfl) ?_) | (with_reducible refine G_i_isTup (by exact rfl) ?_) | (with_reducible refine G_i_isDic (by exact rfl) ?_))) | fail)
local macro_rules | `(tactic| tm_at "dlo") => `(tactic| first | (((with_reducible show GG (oP (cMax _) _)); first | (refine G_i_cMax (by exact rfl) ?_; intro _ _))) | fail)
local macro_rules | `(tactic| tm_at "dlo") => `(tactic| first | (((with_reducible show GG (oP (cMin _) _)); first | (refine G_i_cMin (by exact rfl) ?_; intro _ _))) | fail)
local macro_rules | `(tactic| tm_at "dlo") => `(tactic| first | (((with_reducible show GG (oP (oCat (D.str _) (D.str _)) _)); first | (refine G_i_catS (by (first | omega | decide | assumption | (exact decide_eq_true (by omega)) | (exact Nat.le_of_ble_eq_true rfl) | exact rfl)) ?_))) | fail)
local macro_rules | `(tactic| tm_at "dlo") => `(tactic| first | (((with_reducible show GG (oP (oCat (D.tup _) (D.tup _)) _)); first | (refine G_i_catT (by (first | omega | decide | assumption | (exact decide_eq_true (by omega)) | (exact Nat.le_of_ble_eq_true rfl) | exact rfl)) ?_))) | fail)
local macro_rules | `(tactic| tm_at "dlo") => `(tactic| first | (((with_reducible show GG (oP (oCat (D.lst _) (D.lst _)) _)); first | (refine G_i_catL (by (first | omega | decide | assumption | (exact decide_eq_true (by omega)) | (exact Nat.le_of_ble_eq_true rfl) | exact rfl)) ?_))) | fail)
local macro_rules | `(tactic| tm_at "dlo") => `(tactic| first | (((with_reducible show GG (oP (oRep (D.lst _) (D.int _)) _)); first | (refine G_i_rep1 (by exact rfl) (by (first | omega | decide | assumption | (exact decide_eq_true (by omega)) | (exact Nat.le_of_ble_eq_true rfl) | exact rfl)) ?_) | (refine G_i_repL (by (first | omega | decide | assumption | (exact decide_eq_true (by omega)) | (exact Nat.le_of_ble_eq_true rfl) | exact rfl)) ?_))) | fail)
local macro_rules | `(tactic| tm_at "dlo") => `(tactic| first | (((with_reducible show GG (oP (oRep (D.int _) (D.int _)) _)); first | (refine G_i_oRep (by first | exact sm_l (by omega) | exact sm_r (by omega)) ?_))) | fail)
local macro_rules | `(tactic| tm_at "dlo") => `(tactic| first | (((with_reducible show GG (oP (isN _ _ _) _)); first | (refine G_oP_i (by exact rfl) ?_))) | fail)
local macro_rules | `(tactic| tm_at "dlo") => `(tactic| first | (((with_reducible show GG (oP (oI _ _ (D.int _) (D.int _)) _)); first | (refine G_i_oI (by (first | omega | decide | assumption | (exact decide_eq_true (by omega)) | (exact Nat.le_of_ble_eq_true rfl) | exact rfl)) ?_))) | fail)
local macro_rules | `(tactic| tm_at "dlo") => `(tactic| first | (((with_reducible show GG (oP (oI0 _ (D.int _) (D.int _)) _)); first | (refine G_oP_i (by exact rfl) ?_))) | fail)
local macro_rules | `(tactic| tm_at "dlo") => `(tactic| first | (((with_reducible show GG (oP (eqD _ _ _) _)); with_reducible first | (refine G_oP_i eqD_int ?_) | (refine G_oP_i neD_int ?_) | (refine G_oP_i eqD_str ?_) | (refine G_oP_i neD_str ?_) | (refine G_oP_i eqD_bl ?_) | (refine G_oP_i neD_bl ?_) | (refine G_oP_i eqD_ns ?_) | (refine G_oP_i neD_ns ?_) | (refine G_oP_i eqD_sn ?_) | (refine G_oP_i neD_sn ?_) | (refine G_oP_i eqD_nn ?_) | (refine G_oP_i neD_nn ?_))) | fail)
local macro_rules | `(tactic| tm_at "dlo") => `(tactic| first | (((with_reducible show GG (oP (oCat (D.int _) (D.int _)) _)); with_reducible first | (refine G_i_cat ?_))) | fail)
local macro_rules | `(tactic| tm_at "dlo") => `(tactic| first | (((with_reducible show GG (oP (oIx _ (D.int _)) _)); first | (with_reducible first | refine G_i_ixT0 ?_ | refine G_i_ixT1 ?_ | refine G_i_ixT2 ?_ | refine G_i_ixT3 ?_ | refine G_i_ixL0 ?_ | refine G_i_ixL1 ?_ | refine G_i_ixL2 ?_) | (refine G_oP_i (by exact rfl) ?_) | (refine G_i_ix2I (by exact rfl) (by (first | omega | decide | assumption | (exact decide_eq_true (by omega)) | (exact Nat.le_of_ble_eq_true rfl) | exact rfl)) ?_; intro _ _) | (refine G_i_ix3I (by exact rfl) (by (first | omega | decide | assumption | (exact decide_eq_true (by omega)) | (exact Nat.le_of_ble_eq_true rfl) | exact rfl)) ?_; intro _ _) | (refine G_i_ix4I (by exact rfl) (by (first | omega | decide | assumption | (exact decide_eq_true (by omega)) | (exact Nat.le_of_ble_eq_true rfl) | exact rfl)) ?_; intro _ _) | (refine G_i_ix6I (by exact rfl) (by (first | omega | decide | assumption | (exact decide_eq_true (by omega)) | (exact Nat.le_of_ble_eq_true rfl) | exact rfl)) ?_; intro _ _) | (refine G_i_ix6S (by exact rfl) (by (first | omega | decide | assumption | (exact decide_eq_true (by omega)) | (exact Nat.le_of_ble_eq_true rfl) | exact rfl)) ?_; intro _ _) | (refine G_i_ix2 (by exact rfl) (by (first | omega | decide | assumption | (exact decide_eq_true (by omega)) | (exact Nat.le_of_ble_eq_true rfl) | exact rfl)) ?_; intro _ _))) | fail)
local macro_rules | `(tactic| tm_at "dlo") => `(tactic| first | (((with_reducible show GG (oP (dOf _) _)); first | (refine G_oP_i (by exact rfl) ?_))) | fail)
local macro_rules | `(tactic| tm_at "dlo") => `(tactic| first | (((with_reducible show GG (oP (dsOf _) _)); first | (refine G_oP_i (by exact rfl) ?_))) | fail)
local macro_rules | `(tactic| tm_at "dlo") => `(tactic| first | (((with_reducible show GG (oP (views _ _) _)); first | (refine G_oP_i (by exact rfl) ?_))) | fail)
local macro_rules | `(tactic| tm_at "dlo") => `(tactic| first | (((with_reducible show GG (oP (svOf _) _)); first | (refine G_oP_i (by exact rfl) ?_))) | fail)
local macro_rules | `(tactic| tm_at "dlo") => `(tactic| first | (((with_reducible show GG (oP (view _ _) _)); first | (refine G_oP_i (by exact rfl) ?_))) | fail)
local macro_rules | `(tactic| tm_at "dls") => `(tactic| first | (((with_reducible show GG (wo (if _ then _ else _) _ _ _ _)); with_reducible refine gg_eq wo_ite ?_)) | fail)
local macro_rules | `(tactic| tm_at "dls") => `(tactic| first | (((with_reducible show GG (wo (sSeqN _ _ _) _ _ _ _)); with_reducible refine gg_eq wo_seqN ?_)) | fail)
local macro_rules | `(tactic| tm_at "dls") => `(tactic| first | (((with_reducible show GG (wo (sRetP _ _ _) _ _ _ _)); with_reducible refine gg_eq wp_RetPE ?_)) | fail)
local macro_rules | `(tactic| tm_at "dls") => `(tactic| first | (((with_reducible show GG (wo (sStar _ _ _ _) _ _ _ _)); with_reducible refine gg_eq wp_StarE ?_)) | fail)
local macro_rules | `(tactic| tm_at "dls") => `(tactic| first | (((with_reducible show GG (wo (sPar _ _ _) _ _ _ _)); with_reducible refine gg_eq wp_Par ?_)) | fail)
local macro_rules | `(tactic| tm_at "dls") => `(tactic| first | (((with_reducible show GG (wo (sPutD _ _ _ _) _ _ _ _)); with_reducible refine gg_eq wo_PutD ?_)) | fail)
local macro_rules | `(tactic| tm_at "dls") => `(tactic| first | (((with_reducible show GG (wo (sPutIx _ _ _ _) _ _ _ _)); with_reducible refine gg_eq wp_Put ?_)) | fail)
local macro_rules | `(tactic| tm_at "dls") => `(tactic| first | (((with_reducible show GG (wo (sAsg _ _ _) _ _ _ _)); with_reducible refine gg_eq wp_Asg ?_)) | fail)
local macro_rules | `(tactic| tm_at "dls") => `(tactic| first | (((with_reducible show GG (wo (sFor _ _ _ _) _ _ _ _)); with_reducible refine gg_eq wo_sFor ?_)) | fail)
local macro_rules | `(tactic| tm_at "dls") => `(tactic| first | (((with_reducible show GG (wo (Out.ct _) _ _ _ _)); with_reducible refine gg_eq wo_ct ?_)) | fail)
local macro_rules | `(tactic| tm_at "dls") => `(tactic| first | (((with_reducible show GG (wo (Out.bk _) _ _ _ _)); with_reducible refine gg_eq wo_bk ?_)) | fail)
local macro_rules | `(tactic| tm_at "dls") => `(tactic| first | (((with_reducible show GG (wo (Out.rt _ _) _ _ _ _)); with_reducible refine gg_eq wo_rt ?_)) | fail)
local macro_rules | `(tactic| tm_at "dls") => `(tactic| first | (((with_reducible show GG (wo (Out.nx _) _ _ _ _)); with_reducible refine gg_eq wo_nx ?_)) | fail)
local macro_rules | `(tactic| tm_at "dls") => `(tactic| first | (((with_reducible show GG (wo (rtOut _ _) _ _ _ _)); first | (refine G_i_rtf (by exact rfl) ?_) | (refine G_i_rtl (by exact rfl) ?_) | (refine G_i_rtd (by exact rfl) ?_) | (refine G_i_rtb (by exact rfl) (by exact rfl) ?_) | (refine G_i_rtbd (by exact rfl) (by exact rfl) ?_))) | fail)
local macro_rules | `(tactic| tm_at "dls") => `(tactic| first | (((with_reducible show GG (wo (sDrop _ _) _ _ _ _)); with_reducible refine gg_eq wo_drop ?_)) | fail)
local macro_rules | `(tactic| tm_at "dls") => `(tactic| first | (((with_reducible show GG (wo (sNext _) _ _ _ _)); with_reducible refine gg_eq wo_next ?_)) | fail)
local macro_rules | `(tactic| tm_at "dls") => `(tactic| first | (((with_reducible show GG (wo (sRet _ _) _ _ _ _)); with_reducible refine gg_eq wo_ret ?_)) | fail)
local macro_rules | `(tactic| tm_at "dls") => `(tactic| first | (((with_reducible show GG (wo (sIf _ _ _ _) _ _ _ _)); with_reducible refine gg_eq wo_if ?_)) | fail)
local macro_rules | `(tactic| tm_at "dls") => `(tactic| first | (((with_reducible show GG (wo (sSet _ _ _) _ _ _ _)); with_reducible refine gg_eq wo_set ?_)) | fail)
local macro_rules | `(tactic| tm_at "dls") => `(tactic| first | (((with_reducible show GG (wo (sSeq _ _ _) _ _ _ _)); with_reducible refine gg_eq wo_seq ?_)) | fail)
local macro_rules | `(tactic| tm_at "dl") => `(tactic| first | (((with_reducible show GG (lent _ _ _)); first | (refine G_i_lent (by exact rfl) (by exact rfl) (by exact rfl) ?_))) | fail)
local macro_rules | `(tactic| tm_at "dl") => `(tactic| first | (((with_reducible show GG (putAt _ _ _ _ _)); first | (refine G_i_put (by exact rfl) (by exact rfl) (by exact rfl) (by exact rfl) ?_))) | fail)
local macro_rules | `(tactic| tm_at "dl") => `(tactic| first | (((with_reducible show GG (own0 _ _)); first | (refine G_i_own0 (by exact rfl) ?_))) | fail)
local macro_rules | `(tactic| tm_at "dl") => `(tactic| first | (((with_reducible show GG (ownAt _ _ _)); first | (refine G_i_ownAt (by exact rfl) ?_))) | fail)
local macro_rules | `(tactic| tm_at "dl") => `(tactic| first | (((with_reducible show GG (ownN _ _ _)); first | (refine G_i_ownN (by exact rfl) ?_))) | fail)
local macro_rules | `(tactic| tm_at "dl") => `(tactic| first | (((with_reducible show GG (starAt _ _)); first | (refine G_i_starAt (by exact rfl) ?_))) | fail)
local macro_rules | `(tactic| tm_at "dl") => `(tactic| first | (((with_reducible show GG (strAt _ _)); first | (refine G_i_strAt (by exact rfl) ?_))) | fail)
local macro_rules | `(tactic| tm_at "dl") => `(tactic| first | (((with_reducible show GG (_ ∧ _)); first | (refine G_i_and (by (first | omega | decide | assumption | (exact decide_eq_true (by omega)) | (exact Nat.le_of_ble_eq_true rfl) | exact rfl)) ?_))) | fail)
local macro_rules | `(tactic| tm_at "dl") => `(tactic| first | (((with_reducible show GG (okRange _ _ ∧ _)); first | (refine G_i_and (by unfold okRange; omega) ?_))) | fail)
local macro_rules | `(tactic| tm_at "dl") => `(tactic| first | (((with_reducible show GG (odAt _ _ _)); first | (refine G_odAt (by exact rfl) ?_))) | fail)
local macro_rules | `(tactic| tm_at "dl") => `(tactic| first | (((with_reducible show GG (dicAt _ _)); first | (refine G_dicAt ?_))) | fail)
local macro_rules | `(tactic| tm_at "dl") => `(tactic| first | (((with_reducible show GG (_ ∧ _)); with_reducible first | (refine G_i_bof ?_) | (refine G_i_bol ?_) | (refine G_i_bod ?_))) | fail)
local macro_rules | `(tactic| tm_at "dl") => `(tactic| first | (((with_reducible show GG ((if _ = true then _ else _))); first | (with_reducible refine G_ite_nself ?_) | (with_reducible refine G_ite_self ?_) | (refine G_ite_t (by decide +kernel) ?_) | (refine G_ite_f (by decide +kernel) ?_) | (refine G_ite_t (by exact rfl) ?_) | (refine G_ite_f (by exact rfl) ?_) | (with_reducible refine G_ite_t (decide_eq_true (by first | assumption | omega)) ?_) | (with_reducible refine G_ite_f (decide_eq_false (by first | assumption | omega)) ?_) | ((with_reducible refine gg_d ?_ ?_) <;> intro _) | ((with_reducible refine gg_nd ?_ ?_) <;> intro _) | ((with_reducible refine gg_b ?_ ?_) <;> intro _))) | fail)
local macro_rules | `(tactic| tm_at "dl") => `(tactic| first | (((with_reducible show GG (wo _ _ _ _ _)); tm_at "dls")) | fail)
local macro_rules | `(tactic| tm_at "dl") => `(tactic| first | (((with_reducible show GG (oP _ _)); tm_at "dlo")) | fail)
local macro_rules | `(tactic| tm_at "dl") => `(tactic| first | (((with_reducible show GG (wp _ _)); tm_at "dlw")) | fail)
open PySem.NumText (AllDigits digitsVal)
open TL (numL tl)
theorem w_take {n : Int} {ds : List D} {m : Int} {P : RV → List D → Prop} (hb : Bx n ds) (hn : n ≤ 1000000000) (hm : 0 < m ∧ m < 1073741824) (k : ∀ x ds', 0 ≤ x → x < m → Bx (n+1) ds' → P (.f (.int x)) ds') : wpB F_law_take ds [.int m] P := by
  obtain ⟨a, b, c, rfl, h1, h2, h3, h4, h5⟩ := hb
  obtain ⟨hm, hm2⟩ := hm
  refine wpB_body ?_
  unfold B_law_take
  ((with_reducible refine gg_out ?_) <;> (repeat' (solve | tm_at "dl"))) <;> refine gg_in ?_
  · exact k _ _ (Int.emod_nonneg _ (by omega)) (Int.emod_lt_of_pos _ hm) ⟨_, b, c, rfl, Int.ediv_nonneg h1 (by omega), h2, h3, h4, by omega⟩
  · exact k _ _ (Int.emod_nonneg _ (by omega)) (Int.emod_lt_of_pos _ hm) ⟨a, b, c + 1, rfl, h1, h2, h3, by omega, by omega⟩
/-- a short text of plain signs -/
def Sml (m : Nat) (x : Str) : Prop := x.length ≤ m ∧ ∀ c ∈ tl x, c < 256
theorem Sml.cat {m k : Nat} {x y : Str} (a : Sml m x) (b : Sml k y) : Sml (m + k) (x ++ y) := ⟨by rw [TL.len_tl, TL.tl_append, List.length_append, ← TL.len_tl, ← TL.len_tl]; have := a.1; have := b.1; omega, fun c hc => by
  rw [TL.tl_append] at hc
  rcases List.mem_append.mp hc with h | h
  · exact a.2 c h
  · exact b.2 c h⟩
theorem Sml.up {m k : Nat} {x : Str} (a : Sml m x) (h : m ≤ k) : Sml k x := ⟨Nat.le_trans a.1 h, a.2⟩
theorem sml_dec {m : Nat} {x : Str} (h : (decide (x.length ≤ m) && (tl x).all fun c => decide (c < 256)) = true) : Sml m x := by
  rw [Bool.and_eq_true, List.all_eq_true] at h
  exact ⟨of_decide_eq_true h.1, fun c hc => of_decide_eq_true (h.2 c hc)⟩
theorem sml_sgn {c : Nat} (h : c < 256) : Sml 1 (sgn c) := ⟨Nat.le_refl 1, fun d hd => by rw [show tl (sgn c) = [c] from rfl, List.mem_singleton] at hd; rw [hd]; exact h⟩
theorem i_slS {m : Nat} {x : Str} {lo hi : Option Int} {P : RV → Prop} (hx : Sml m x) (hm : m ≤ 100000) (k : ∀ y, Sml m y → P (.f (.str y))) : oP (oSl (.str x) lo hi) P := by
  unfold oSl
  simp only [if_pos (Nat.le_trans hx.1 hm)]
  refine k _ ⟨Nat.le_trans (cutS_length x lo hi) hx.1, fun c hc => hx.2 c ?_⟩
  have e : tl (cutS x lo hi) = ((tl x).drop (HT.sIx x.length 0 lo)).take (HT.sIx x.length x.length hi - HT.sIx x.length 0 lo) := rfl
  rw [e] at hc
  exact List.mem_of_mem_drop (List.mem_of_mem_take hc)
theorem i_ixM {m : Nat} {x : Str} {i : Int} {P : RV → Prop} (hx : Sml m x) (hl : x.length = m) (hm : m ≤ 100000) (h : 0 ≤ i ∧ i < m) (k : ∀ c, c < 256 → P (.f (.str (sgn c)))) : oP (oIx (.str x) (.int i)) P :=
  i_ixS (by omega) ⟨h.1, by omega⟩ fun c hc _ => k c (hx.2 c hc)
theorem i_catM {m k : Nat} {x y : Str} {P : RV → Prop} (a : Sml m x) (b : Sml k y) (h : m + k ≤ 100000) (q : ∀ z, Sml (m + k) z → P (.f (.str z))) : oP (oCat (.str x) (.str y)) P :=
  i_catS (by have := a.1; have := b.1; omega) (q _ (a.cat b))
theorem i_str {i : Int} {P : RV → Prop} (h : i.natAbs < 10 ^ 570) (k : P (.f (.str (Str.ofString (toString i))))) : oP (cStr [.int i]) P := by
  unfold cStr
  simp only [if_pos h]
  exact k
def digB (l : List Nat) : Bool := l.all fun c => decide (48 ≤ c) && decide (c ≤ 57)
theorem wp_arr {is : List Nat} {ms : List D} {fa fk : Sl → Rs (List NV)} {S : Sl} {P : List NV → Sl → Prop} : wp (fArr is ms fa fk S) P = wp (fa S) fun ns S1 => wp (fk S1) fun zs S2 => P (pick is (ns ++ (ms.map NV.f ++ zs))) S2 := by
  unfold fArr
  rw [wp_bind]
  congr
  funext ns S1
  rw [wp_bind]
  congr
theorem wp_dic1 {f1 g1 : Sl → Rs NV} {S : Sl} {P : RV → Sl → Prop} : wp (fDic1 f1 g1 S) P = wp (f1 S) fun n S1 => wp (g1 S1) fun m S2 => wp (mk1 n m S2) P := by
  unfold fDic1
  rw [wp_bind]
  congr
  funext n S1
  rw [wp_bind]
theorem i_mk1 {k d : D} {q : Key} {S : Sl} {P : RV → Sl → Prop} (hq : keyD k = some q) (h : P (.od [q] [d]) S) : wp (mk1 (.f k) (.f d) S) P := by
  unfold mk1
  simp only [hq]
  exact h
theorem i_mkX {x f : Str} {f1 : Sl → Rs NV} {S : Sl} {P : RV → Sl → Prop} (h : wp (f1 S) fun n S1 => ∃ d, n = .f d ∧ P (.f (.xob x [f] [d])) S1) : wp (fMkX x f f1 S) P := by
  unfold fMkX
  rw [wp_bind]
  refine wp_mono h ?_
  rintro _ S1 ⟨d, rfl, h⟩
  exact h
theorem eq_nil : eqD false (.lst []) (.lst []) = some (.f (.bl true)) := eqD_same (neg := false) (xs := []) (by decide) (by decide)
open PySem.NumText (AllDigits digitsVal)
open TL (numL tl)
theorem G_txt {n : NV} {x : Str} {S : Sl} {P : List D → Sl → Prop} (h : n = .f (.str x)) (k : GG (P (signsD x) S)) : GG (wp (txtOf n S) P) := by
  subst h
  exact k
abbrev sg (c : Nat) : D := .str (sgn c)
theorem signs_eq {x : Str} : signsD x = (tl x).map sg := rfl
theorem lay_sg {l : List Nat} (h : ∀ c ∈ l, c < 256) : layL (l.map sg) = true := layL_of fun d hd => by
  obtain ⟨c, hc, rfl⟩ := List.mem_map.mp hd
  have := h c hc
  unfold lay sgn
  simp
  omega
theorem dep_sg {l : List Nat} : depL (l.map sg) ≤ 63 := depL_of fun d hd => by
  obtain ⟨c, hc, rfl⟩ := List.mem_map.mp hd
  simp [dep]
theorem eqD_nilT {xs : List D} (h1 : layL xs = true) (d1 : depL xs ≤ 63) : eqD true (.lst xs) (.lst []) = some (.f (.bl (!xs.isEmpty))) := by
  rw [eqD_L h1 rfl d1 (by simp [depL])]
  cases xs with
  | nil => rfl
  | cons x xs => simp [pydL, PyData.eqvAll]
theorem tl_nil {x : Str} : x = PySem.Str.ofString "" ↔ tl x = [] := ⟨fun h => by rw [h]; rfl, fun h => TL.ext_tl (by rw [h]; rfl)⟩
instance (t : Str) : Decidable (Tgt t) := inferInstanceAs (Decidable (_ ∧ _ ∧ _))
def intB (d : D) (lo hi : Int) : Bool := match d with
  | .int i => decide (lo ≤ i ∧ i ≤ hi)
  | _ => false
def tgtB (d : D) : Bool := match d with
  | .str t => decide (Tgt t)
  | _ => false
theorem c_int {d : D} {lo hi : Int} (hk : kno d = true) : wpF F_is_integer [d, .int lo, .int hi] (· = .f (.bl (intB d lo hi))) := by
  refine wpF_body ?_
  unfold B_is_integer
  cases d <;> first | (cases hk; done) | skip
  case int v =>
    ((with_reducible refine gg_out ?_) <;> (repeat' (solve | tm_at "dl"))) <;> refine gg_in ?_
    · rename_i h
      show _ = RV.f (.bl (decide (lo ≤ v ∧ v ≤ hi)))
      simp [h]
    · rename_i h
      show _ = RV.f (.bl (decide (lo ≤ v ∧ v ≤ hi)))
      simp [h]
  all_goals ((with_reducible refine gg_out ?_) <;> (repeat' (solve | tm_at "dl"))) <;> refine gg_in ?_
  all_goals first | rfl | (refine i_isInt hk ?_; ((with_reducible refine gg_out ?_) <;> (repeat' (solve | tm_at "dl"))) <;> refine gg_in ?_)
  all_goals rfl
theorem c_val {d : D} (hk : kno d = true) : wpF F_is_value [d] (· = .f (.bl (intB d 0 999999999))) := by
  have c := c_int (lo := 0) (hi := 999999999) hk
  refine wpF_body ?_
  unfold B_is_value
  ((with_reducible refine gg_out ?_) <;> (repeat' (solve | ((with_reducible show GG (wpF _ _ _)); with_reducible refine gg_eq (wpF_det (c)) ?_) | tm_at "dl"))) <;> refine gg_in ?_
  rfl
theorem c_tgt {t : Str} (h : t.length ≤ 100000) : wpF F_is_target [.str t] (· = .f (.bl (decide (Tgt t)))) := by
  refine wpF_body ?_
  unfold B_is_target
  ((with_reducible refine gg_out ?_) <;> (repeat' (solve | tm_at "dl"))) <;> refine gg_in ?_
  · rename_i h1 h2
    have e : Txt.stripChars t (PySem.Str.ofString "abcdefghijklmnopqrstuvwxyz") = PySem.Str.ofString "" ↔ Tgt t := by
      refine strip_low.trans ⟨fun h => ⟨by omega, by omega, h⟩, fun h => h.2.2⟩
    simp only [e]
  · rename_i h1 h2
    have : ¬ Tgt t := fun h => by have := h.2.1; omega
    simp [this]
  · rename_i h1
    have : ¬ Tgt t := fun h => by have := h.1; omega
    simp [this]
theorem c_tgtX {d : D} (hk : kno d = true) (hs : isStrD d = false) : wpF F_is_target [d] (· = .f (.bl false)) := by
  refine wpF_body ?_
  unfold B_is_target
  ((with_reducible refine gg_out ?_) <;> (repeat' (solve | tm_at "dl"))) <;> refine gg_in ?_
  refine i_isStr hk ?_
  rw [hs]
  ((with_reducible refine gg_out ?_) <;> (repeat' (solve | tm_at "dl"))) <;> refine gg_in ?_
  all_goals rfl
theorem c_lstD {d : D} (hk : kno d = true) : wpF F_is_list [d] (· = .f (.bl (isLT d))) := by
  refine wpF_body ?_
  unfold B_is_list
  cases d <;> first | (cases hk; done) | skip
  all_goals ((with_reducible refine gg_out ?_) <;> (repeat' (solve | tm_at "dl"))) <;> refine gg_in ?_
  all_goals first | rfl | skip
theorem wp_InRg {f1 : Sl → Rs NV} {fa : Sl → Rs (List NV)} {S : Sl} {P : RV → Sl → Prop} : wp (fInRg f1 fa S) P = wp (f1 S) fun n S1 => wp (fa S1) fun ns S2 => wp (inRgR n ns S2) P := by
  unfold fInRg
  rw [wp_bind]
  congr
  funext n S1
  rw [wp_bind]
theorem i_inRg {i lo hi : Int} {S : Sl} {P : RV → Sl → Prop} (h : P (.f (.bl (decide (lo ≤ i ∧ i < hi)))) S) : wp (inRgR (.f (.int i)) [.f (.int lo), .f (.int hi)] S) P := h
def nlow (c : Nat) : Bool := !(decide (Low c))
theorem in_low {c : Nat} : decide (c ∈ (PySem.Str.ofString "abcdefghijklmnopqrstuvwxyz").cps.toList) = !nlow c := by
  have h := letters_has c
  have e : (PySem.Str.ofString "abcdefghijklmnopqrstuvwxyz").cps.contains c = decide (c ∈ (PySem.Str.ofString "abcdefghijklmnopqrstuvwxyz").cps.toList) := by
    rw [Bool.eq_iff_iff]
    simp
  unfold letters at h
  rw [e] at h
  rw [h]
  unfold nlow
  simp
theorem no_nl {l : List Nat} : (l.filter nlow).map sg = [] ↔ ∀ c ∈ l, Low c := by
  rw [List.map_eq_nil_iff, List.filter_eq_nil_iff]
  unfold nlow
  refine forall_congr' fun c => forall_congr' fun _ => ?_
  simp
theorem eqD_nilF {xs : List D} (h1 : layL xs = true) (d1 : depL xs ≤ 63) : eqD false (.lst xs) (.lst []) = some (.f (.bl (xs.isEmpty))) := by
  rw [eqD_L h1 rfl d1 (by simp [depL])]
  cases xs with
  | nil => rfl
  | cons x xs => simp [pydL, PyData.eqvAll]
theorem c_named {x : Str} (hx : x.length ≤ 100000) (hs : ∀ c ∈ tl x, c < 256) : wpF F_law_named [.str x] (· = .f (.bl (decide (Tgt x)))) := by
  have hlen : x.length = (tl x).length := TL.len_tl x
  refine wpF_body ?_
  unfold B_law_named
  ((with_reducible refine gg_out ?_) <;> (repeat' (solve | ((with_reducible show GG (wp (txtOf _ _) _)); refine G_txt (by exact rfl) ?_) | ((with_reducible show GG (wp (fInRg _ _ _) _)); with_reducible refine gg_eq wp_InRg ?_) | ((with_reducible show GG (wp (inRgR _ _ _) _)); refine gg_imp i_inRg ?_) | tm_at "dl"))) <;> refine gg_in ?_
  · rename_i hr
    rw [signs_eq]
    refine wp_lcF (I := fun r acc S => ∃ l1 l2, tl x = l1 ++ l2 ∧ r = l2.map sg ∧ acc = (l1.filter nlow).map sg ∧ S = [.f (.str x), .u]) ⟨[], tl x, rfl, rfl, rfl, rfl⟩ (by rw [List.length_map]; simp only [List.length_nil]; omega) ?_ ?_
    · rintro d r acc S ⟨l1, l2, e1, e2, rfl, rfl⟩
      cases l2 with
      | nil => cases e2
      | cons c l2 =>
        cases e2
        ((with_reducible refine gg_out ?_) <;> (repeat' (solve | tm_at "dl"))) <;> refine gg_in ?_
        · rename_i q
          have q' : nlow c = true := by rw [if_pos rfl, in_low, Bool.not_not] at q; exact q
          exact ⟨l1 ++ [c], l2, by rw [e1]; simp, rfl, by simp [q'], rfl⟩
        · rename_i q
          have q' : nlow c = false := by rw [if_pos rfl, in_low, Bool.not_not] at q; exact q
          exact ⟨l1 ++ [c], l2, by rw [e1]; simp, rfl, by simp [q'], rfl⟩
    · rintro acc S ⟨l1, l2, e1, e2, rfl, rfl⟩
      cases l2 with
      | cons c l2 => cases e2
      | nil =>
        rw [List.append_nil] at e1
        subst e1
        have e9 := eqD_nilF (xs := ((tl x).filter nlow).map sg) (lay_sg fun c hc => hs c (List.mem_filter.mp hc).1) dep_sg
        have key : (((tl x).filter nlow).map sg).isEmpty = decide (Tgt x) := by
          rw [Bool.eq_iff_iff, List.isEmpty_iff, no_nl, decide_eq_true_eq]
          exact ⟨fun h => ⟨by omega, by omega, h⟩, fun h => h.2.2⟩
        rw [key] at e9
        ((with_reducible refine gg_out ?_) <;> (repeat' (solve | ((with_reducible show GG (oP (eqD _ _ _) _)); with_reducible refine gg_imp (oP_i (e9)) ?_) | tm_at "dl"))) <;> refine gg_in ?_
        rfl
  · rename_i hr
    have : ¬ Tgt x := fun h => hr ⟨by have := h.1; omega, by have := h.2.1; omega⟩
    simp [this]
open PySem.NumText (AllDigits digitsVal)
open TL (numL tl)
theorem w_word {n : Int} {ds : List D} {P : RV → List D → Prop} (hb : Bx n ds) (hn : n ≤ 900000000) (k : ∀ x ds', Sml 20 x → Bx (n+20) ds' → P (.f (.str x)) ds') : wpB F_law_word ds [] P := by
  refine wpB_body ?_
  unfold B_law_word
  ((with_reducible refine gg_out ?_) <;> (repeat' (solve | ((with_reducible show GG (wpB F_law_take _ _ _)); refine gg_in (w_take (by assumption) (by omega) (by first | decide | omega) ?_); intro _ _ _ _ _; refine gg_out ?_) | tm_at "dl"))) <;> refine gg_in ?_
  rename_i x ds' h0 h1 hb'
  refine wp_lcF (I := fun r acc S => ∃ (cs : List Nat) (bx : List D), acc = cs.map (fun c => D.str (sgn c)) ∧ (∀ c ∈ cs, Low c) ∧ cs.length + r.length = x.toNat ∧ Bx (n + 1 + cs.length) bx ∧ S = [.ol (some 0) bx, .f (.str letters), .u, .u, .u, .u, .u]) ⟨[], ds', rfl, by simp, by rw [intsFrom_len]; simp, hb'.mono (by simp), rfl⟩ (by rw [intsFrom_len]; simp; omega) ?_ ?_
  · rintro d r acc S ⟨cs, bx, rfl, hl, hn, hbx, rfl⟩
    simp only [List.length_cons] at hn
    ((with_reducible refine gg_out ?_) <;> (repeat' (solve | ((with_reducible show GG (wpB F_law_take _ _ _)); refine gg_in (w_take (by assumption) (by omega) (by first | decide | omega) ?_); intro _ _ _ _ _; refine gg_out ?_) | ((with_reducible show GG (oP (oIx (D.str _) (D.int _)) _)); refine G_i_ixS (by decide +kernel) ⟨by omega, by rw [show letters.length = 26 from by decide +kernel]; omega⟩ ?_; intro _ _ _) | tm_at "dl"))) <;> refine gg_in ?_
    rename_i y bx' h2 h3 hb2 c hc hc2
    exact ⟨cs ++ [c], bx', by simp, fun z hz => by
      rcases List.mem_append.mp hz with hz | hz
      · exact hl z hz
      · rw [List.mem_singleton.mp hz]; exact letters_low hc, by simp; omega, hb2.mono (by simp; omega), rfl⟩
  · rintro acc S ⟨cs, bx, rfl, hl, hn, hbx, rfl⟩
    simp only [List.length_nil] at hn
    have hc : (ofCps cs).length = cs.length := ofCps_len
    have sw : Sml 9 (ofCps cs) := ⟨by omega, fun c h => by
      have := hl c (by rw [← ofCps_list (cs := cs)]; exact h)
      unfold Low at this
      omega⟩
    have hne : ¬ ofCps cs = PySem.Str.ofString "" → 0 < (ofCps cs).length := fun h => by
      rcases Nat.eq_zero_or_pos (ofCps cs).length with z | z
      · exact absurd (tl_nil.mpr (List.length_eq_zero_iff.mp (by rw [← TL.len_tl]; exact z))) h
      · exact z
    ((with_reducible refine gg_out ?_) <;> (repeat' (solve | ((with_reducible show GG (oP (oJoin _ _) _)); with_reducible refine gg_imp (i_joinS (cs := cs) (by omega)) ?_) | tm_at "dl"))) <;> refine gg_in ?_
    generalize ofCps cs = y at *
    ((with_reducible refine gg_out ?_) <;> (repeat' (solve | ((with_reducible show GG (wpB F_law_take _ (D.int (y.length : Int) :: _) _)); refine gg_in (w_take (by assumption) (by omega) ⟨by have := hne (by assumption); omega, by have := sw.1; omega⟩ ?_); intro _ _ _ _ _; refine gg_out ?_) | ((with_reducible show GG (wpB F_law_take _ _ _)); refine gg_in (w_take (by assumption) (by omega) (by first | decide | omega) ?_); intro _ _ _ _ _; refine gg_out ?_) | ((with_reducible show GG (oP (oSl (D.str _) _ _) _)); refine gg_in (i_slS sw (by decide) fun _ _ => gg_out ?_)) | ((with_reducible show GG (oP (oIx (D.str _) (D.int _)) _)); refine gg_in (i_ixM (m := 69) (sml_dec (by decide +kernel)) (by decide +kernel) (by decide) ⟨by omega, by omega⟩ fun _ _ => gg_out ?_)) | ((with_reducible show GG (oP (oCat (D.str (Str.ofString _)) (D.str (Str.ofString _))) _)); refine gg_imp (i_catS (by decide +kernel)) ?_) | ((with_reducible show GG (oP (oCat (D.str _) (D.str _)) _)); refine gg_in (i_catM (by first | assumption | exact sml_sgn (by assumption)) (by first | assumption | exact sml_sgn (by assumption)) (by decide) fun _ _ => gg_out ?_)) | tm_at "dl"))) <;> refine gg_in ?_
    · exact k _ _ (sw.up (by decide)) (Bx.mono (by assumption) (by omega))
    · exact k _ _ (sw.up (by decide)) (Bx.mono (by assumption) (by omega))
    · exact k _ _ (Sml.up (by assumption) (by decide)) (Bx.mono (by assumption) (by omega))
theorem i_reprG {ds : List D} {d d' : D} {P : RV → Prop} (hd : ds = [d]) (he : d = d') (h : okShG d' = true) (k : P (.f (.str (rpG d')))) : oP (cReprG ds) P := by
  subst hd he
  unfold cReprG
  simp only [if_pos h]
  exact k
theorem bools_py : ∀ bs : List Bool, knGL (bs.map D.bl) = true ∧ PyData.showableAll (pydL (bs.map D.bl)) = true ∧ PyData.leavesShortAll 45 (pydL (bs.map D.bl)) = true ∧ PyData.depthAll (pydL (bs.map D.bl)) = 0 ∧ PyData.weightAll (pydL (bs.map D.bl)) = bs.length
  | [] => by simp [knGL, pydL, PyData.showableAll, PyData.leavesShortAll, PyData.depthAll, PyData.weightAll]
  | b :: bs => by
    obtain ⟨h1, h2, h3, h4, h5⟩ := bools_py bs
    refine ⟨?_, ?_, ?_, ?_, ?_⟩
    · simp only [List.map_cons, knGL, knG, h1, Bool.and_self]
    · simp only [List.map_cons, pydL, pyd, PyData.showableAll, PyData.showable, h2, Bool.and_self]
    · simp only [List.map_cons, pydL, pyd, PyData.leavesShortAll, PyData.leavesShort, h3, Bool.and_self]
    · simp only [List.map_cons, pydL, pyd, PyData.depthAll, PyData.depth, h4, Nat.max_self]
    · simp only [List.map_cons, pydL, pyd, PyData.weightAll, PyData.weight, h5, List.length_cons]
      omega
theorem okb {bs : List Bool} (h : bs.length ≤ 1000) : okShG (.lst (bs.map D.bl)) = true := by
  obtain ⟨h1, h2, h3, h4, h5⟩ := bools_py bs
  have e : pyG (.lst (bs.map D.bl)) = .list (pydL (bs.map D.bl)) := by simp only [pyG, pyd]
  unfold okShG
  rw [e]
  simp only [tpG, knG, h1, PyData.showable, h2, PyData.leavesShort, h3, PyData.depth, h4, PyData.weight, h5, Bool.true_and, Bool.and_eq_true, decide_eq_true_eq]
  omega
theorem eq_str {s : Str} : eqD false (.str s) (.str s) = some (.f (.bl true)) := by
  rw [eqD_str, decide_eq_true rfl]
theorem sml_cut {m : Nat} {x : Str} {lo hi : Option Int} (hx : Sml m x) : Sml m (cutS x lo hi) := ⟨Nat.le_trans (cutS_length x lo hi) hx.1, fun c hc => by
  have e : tl (cutS x lo hi) = ((tl x).drop (HT.sIx x.length 0 lo)).take (HT.sIx x.length x.length hi - HT.sIx x.length 0 lo) := rfl
  rw [e] at hc
  exact hx.2 c (List.mem_of_mem_drop (List.mem_of_mem_take hc))⟩
theorem cg_same {d d' : D} (e : d = d') (h : okShG d' = true) : cReprG [d] = some (.f (.str (rpG d'))) := by
  subst e
  show (if okShG d = true then some (RV.f (.str (rpG d))) else none) = _
  rw [if_pos h]
theorem odds2 : ∀ d ∈ [D.non, .int 3, .bl true, .lst [.str (PySem.Str.ofString "a")], .tup [.str (PySem.Str.ofString "a")], .dic [.inr (PySem.Str.ofString "a")] [.int 1], .lst [], .tup [], .xob (PySem.Str.ofString "InvalidTarget") [PySem.Str.ofString "value"] [.str (PySem.Str.ofString "a")]], kno d = true ∧ isStrD d = false := by
  simp only [List.forall_mem_cons]
  exact ⟨⟨rfl, rfl⟩, ⟨rfl, rfl⟩, ⟨rfl, rfl⟩, ⟨rfl, rfl⟩, ⟨rfl, rfl⟩, ⟨rfl, rfl⟩, ⟨rfl, rfl⟩, ⟨rfl, rfl⟩, ⟨rfl, rfl⟩, fun _ z => nomatch z⟩
set_option maxHeartbeats 400000 in
theorem w_names {n : Int} {ds : List D} {P : RV → List D → Prop} (hb : Bx n ds) (hn : n ≤ 800000000) (k : ∀ ds', Bx (n+30) ds' → P (.f (.bl true)) ds') : wpB F_law_names_right ds [] P := by
  refine wpB_body ?_
  unfold B_law_names_right
  ((with_reducible refine gg_out ?_) <;> (repeat' (solve | ((with_reducible show GG (wpB F_law_word _ _ _)); refine gg_in (w_word (by assumption) (by omega) ?_); intro _ _ _ _; refine gg_out ?_) | tm_at "dl"))) <;> refine gg_in ?_
  rename_i x ds1 sx hb1
  have hx : x.length ≤ 100000 := Nat.le_trans sx.1 (by decide)
  have sa : Sml 21 (x ++ PySem.Str.ofString "a") := sx.cat (k := 1) (sml_dec (by decide +kernel))
  have t1 := c_tgt hx
  have n1 := c_named hx sx.2
  have t3 := c_tgt (t := x ++ PySem.Str.ofString "a") (Nat.le_trans sa.1 (by decide))
  have n3 := c_named (x := x ++ PySem.Str.ofString "a") (Nat.le_trans sa.1 (by decide)) sa.2
  have s2 : Sml 20 (cutS x none (some 6)) := sml_cut sx
  have t2 := c_tgt (t := cutS x none (some 6)) (Nat.le_trans s2.1 (by decide))
  have n2 := c_named (x := cutS x none (some 6)) (Nat.le_trans s2.1 (by decide)) s2.2
  have hl : x.length + (PySem.Str.ofString "a").length ≤ 100000 := by
    have e1 : (PySem.Str.ofString "a").length = 1 := by decide +kernel
    have := sx.1
    omega
  generalize decide (Tgt x) = b1 at t1 n1
  generalize decide (Tgt (cutS x none (some 6))) = b2 at t2 n2
  generalize decide (Tgt (x ++ PySem.Str.ofString "a")) = b3 at t3 n3
  ((with_reducible refine gg_out ?_) <;> (repeat' (solve | ((with_reducible show GG (wpF _ _ _)); with_reducible refine gg_eq (wpF_det (t1)) ?_) | ((with_reducible show GG (wpF _ _ _)); with_reducible refine gg_eq (wpF_det (n1)) ?_) | ((with_reducible show GG (wpF _ _ _)); with_reducible refine gg_eq (wpF_det (t2)) ?_) | ((with_reducible show GG (wpF _ _ _)); with_reducible refine gg_eq (wpF_det (n2)) ?_) | ((with_reducible show GG (wpF _ _ _)); with_reducible refine gg_eq (wpF_det (t3)) ?_) | ((with_reducible show GG (wpF _ _ _)); with_reducible refine gg_eq (wpF_det (n3)) ?_) | ((with_reducible show GG (oP (oCat (D.str _) (D.str _)) _)); refine gg_imp (i_catS hl) ?_) | ((with_reducible show GG (wp (fDic1 _ _ _) _)); with_reducible refine gg_eq wp_dic1 ?_) | ((with_reducible show GG (wp (mk1 _ _ _) _)); refine gg_imp (i_mk1 (by exact rfl)) ?_) | ((with_reducible show GG (wp (fMkX _ _ _ _) _)); with_reducible refine gg_imp i_mkX ?_) | ((with_reducible show GG (∃ _, _ = _ ∧ _)); refine gg_imp (fun h => ⟨_, rfl, h⟩) ?_) | tm_at "dl"))) <;> refine gg_in ?_
  with_reducible refine wp_lcF (I := fun r acc S => (∀ d ∈ r, kno d = true ∧ isStrD d = false) ∧ acc.length + r.length = 9 ∧ (∀ a ∈ acc, a = D.bl false) ∧ ∃ v1 v4, S = [.ol (some 0) ds1, v1, .ol none [.bl b1, .bl b1, .bl b2, .bl b3], .ol none [.bl b1, .bl b1, .bl b2, .bl b3], v4, .u]) ?_ ?_ ?_ ?_
  · exact ⟨odds2, rfl, (fun _ z => nomatch z), _, _, rfl⟩
  · simp only [List.length_cons, List.length_nil]; omega
  · rintro d r acc S ⟨hd, hl2, ha, v1, v4, rfl⟩
    obtain ⟨q1, q2⟩ := hd _ List.mem_cons_self
    have cN := c_tgtX q1 q2
    ((with_reducible refine gg_out ?_) <;> (repeat' (solve | ((with_reducible show GG (wpF _ _ _)); with_reducible refine gg_eq (wpF_det (cN)) ?_) | tm_at "dl"))) <;> refine gg_in ?_
    exact ⟨fun d hq => hd d (List.mem_cons_of_mem _ hq), by simp only [List.length_append, List.length_cons, List.length_nil] at *; omega, fun a hq => (List.mem_append.mp hq).elim (ha a) List.mem_singleton.mp, _, _, rfl⟩
  · rintro acc S ⟨_, hl2, ha, v1, v4, rfl⟩
    obtain rfl : acc = List.replicate 9 (D.bl false) := List.eq_replicate_iff.mpr ⟨by simpa using hl2, ha⟩
    ((with_reducible refine gg_out ?_) <;> (repeat' (solve | tm_at "dl"))) <;> refine gg_in ?_
    rw [show List.replicate (Int.toNat 9) (D.bl false) = List.replicate 9 (D.bl false) from rfl, decide_eq_true rfl]
    exact k _ (hb1.mono (by omega))
open PySem.NumText (AllDigits digitsVal)
open TL (numL tl)
theorem i_ixI {ds : List D} {i lo hi : Int} {P : RV → Prop} (h : 0 ≤ i ∧ i < (ds.length : Nat)) (hd : ∀ d ∈ ds, ∃ j : Int, d = .int j ∧ lo ≤ j ∧ j ≤ hi) (k : ∀ j, lo ≤ j → j ≤ hi → P (.f (.int j))) : oP (oIx (.lst ds) (.int i)) P := by
  refine i_ixL h fun d q _ => ?_
  obtain ⟨j, rfl, h1, h2⟩ := hd d q
  exact k j h1 h2
theorem pows : ∀ d ∈ [D.int 1, .int (10 ^ Int.toNat 4), .int (10 ^ Int.toNat 11), .int (10 ^ Int.toNat 19), .int (4 * 10 ^ Int.toNat 26)], ∃ j : Int, d = .int j ∧ 1 ≤ j ∧ j ≤ 4 * 10 ^ 26 := by
  simp only [List.forall_mem_cons]
  exact ⟨⟨_, rfl, by decide +kernel, by decide +kernel⟩, ⟨_, rfl, by decide +kernel, by decide +kernel⟩, ⟨_, rfl, by decide +kernel, by decide +kernel⟩, ⟨_, rfl, by decide +kernel, by decide +kernel⟩, ⟨_, rfl, by decide +kernel, by decide +kernel⟩, (fun _ z => nomatch z)⟩
theorem low570 {x p y : Int} (hx : 0 ≤ x ∧ x < 2001) (hp : 1 ≤ p ∧ p ≤ 4 * 10 ^ 26) (hy : 0 ≤ y ∧ y < 9) : ((x - 1000) * p + y).natAbs < 10 ^ 570 := by
  have h1 : ((x - 1000) * p).natAbs = (x - 1000).natAbs * p.natAbs := Int.natAbs_mul _ _
  have h2 : (x - 1000).natAbs ≤ 1001 := by omega
  have h3 : p.natAbs ≤ 4 * 10 ^ 26 := by omega
  have h4 := Nat.mul_le_mul h2 h3
  have h5 := Int.natAbs_add_le ((x - 1000) * p) y
  have h6 : ((x - 1000) * p + y).natAbs < 10 ^ 31 := by omega
  exact Nat.lt_of_lt_of_le h6 (Nat.pow_le_pow_right (by decide) (by decide))
def notI : D → Bool
  | .int _ => false
  | _ => true
theorem c_intX {d : D} {lo hi : Int} (hk : kno d = true) (hn : notI d = true) : wpF F_is_integer [d, .int lo, .int hi] (· = .f (.bl false)) := by
  have := c_int (lo := lo) (hi := hi) hk
  cases d <;> first | (cases hn; done) | exact this
theorem oLe_t {a b : Int} (h : a ≤ b) : oLe (.int a) (.int b) = some (.f (.bl true)) := by
  show some (RV.f (.bl (decide (a ≤ b)))) = _
  rw [decide_eq_true h]
theorem oLe_f {a b : Int} (h : ¬ a ≤ b) : oLe (.int a) (.int b) = some (.f (.bl false)) := by
  show some (RV.f (.bl (decide (a ≤ b)))) = _
  rw [decide_eq_false h]
theorem c_intT {v a b : Int} (h1 : a ≤ v) (h2 : v ≤ b) : wpF F_is_integer [.int v, .int a, .int b] (· = .f (.bl true)) := by
  have := c_int (d := .int v) (lo := a) (hi := b) rfl
  rwa [show intB (.int v) a b = true from decide_eq_true ⟨h1, h2⟩] at this
theorem c_intF {v a b : Int} (h : ¬ (a ≤ v ∧ v ≤ b)) : wpF F_is_integer [.int v, .int a, .int b] (· = .f (.bl false)) := by
  have := c_int (d := .int v) (lo := a) (hi := b) rfl
  rwa [show intB (.int v) a b = false from decide_eq_false h] at this
theorem odds8 {x : Str} {L : Int} : ∀ d ∈ [D.non, .str x, .lst [.int L], .tup [.int L], .bl true, .bl false, .dic [.inl L] [.int L], .xob (PySem.Str.ofString "InvalidTarget") [PySem.Str.ofString "value"] [.int L]], kno d = true ∧ notI d = true := by
  simp only [List.forall_mem_cons]
  exact ⟨⟨rfl, rfl⟩, ⟨rfl, rfl⟩, ⟨rfl, rfl⟩, ⟨rfl, rfl⟩, ⟨rfl, rfl⟩, ⟨rfl, rfl⟩, ⟨rfl, rfl⟩, ⟨rfl, rfl⟩, (fun _ z => nomatch z)⟩
set_option maxHeartbeats 800000 in
theorem w_ints {n : Int} {ds : List D} {P : RV → List D → Prop} (hb : Bx n ds) (hn : n ≤ 800000000) (k : ∀ ds', Bx (n+30) ds' → P (.f (.bl true)) ds') : wpB F_law_integers_right ds [] P := by
  refine wpB_body ?_
  unfold B_law_integers_right
  ((with_reducible refine gg_out ?_) <;> (repeat' (solve | ((with_reducible show GG (wpB F_law_take _ _ _)); refine gg_in (w_take (by assumption) (by omega) (by first | decide | omega) ?_); intro _ _ _ _ _; refine gg_out ?_) | ((with_reducible show GG (oP (oIx (D.lst [_, _, _, _, _]) (D.int _)) _)); refine gg_in (i_ixI ⟨by omega, by show _ < ((5 : Nat) : Int); omega⟩ pows fun _ _ _ => gg_out ?_)) | tm_at "dl"))) <;> refine gg_in ?_
  rename_i x0 b0 a1 a2 a3 p p1 p2 x1 b1 a4 a5 a6 y b2 a7 a8 a9 x2 b3 a10 a11 a12 d1 hd1 x3 b4 a13 a14 a15 x4 b5 a16 a17 a18 d2 hd2 x5 b6 a19 a20 hb7
  have hL := low570 (x := x1) (p := p) (y := y) ⟨a4, a5⟩ ⟨p1, p2⟩ ⟨a7, a8⟩
  with_reducible refine wo_for (I := fun r S => (∀ d ∈ r, ∃ i : Int, d = .int i) ∧ ∃ (L M : Int) (v1 v4 v6 v7 : SV), L.natAbs < 10 ^ 570 ∧ S = [.ol (some 0) b6, v1, .f (.int L), .f (.int M), v4, .u, v6, v7, .u]) ?_ ?_ ?_
  · refine ⟨?_, _, _, _, _, _, _, hL, rfl⟩
    simp only [List.forall_mem_cons]
    exact ⟨⟨_, rfl⟩, ⟨_, rfl⟩, ⟨_, rfl⟩, ⟨_, rfl⟩, ⟨_, rfl⟩, ⟨_, rfl⟩, ⟨_, rfl⟩, ⟨_, rfl⟩, (fun _ z => nomatch z)⟩
  · rintro d r S ⟨hd, L, M, v1, v4, v6, v7, hL2, rfl⟩
    obtain ⟨i, rfl⟩ := hd _ List.mem_cons_self
    have hd' : ∀ d ∈ r, ∃ i : Int, d = .int i := fun d hq => hd d (List.mem_cons_of_mem _ hq)
    by_cases h1 : L ≤ i
    · by_cases h2 : i ≤ M
      · have c1 := c_intT h1 h2
        have o1 := oLe_t h1
        have o2 := oLe_t h2
        ((with_reducible refine gg_out ?_) <;> (repeat' (solve | ((with_reducible show GG (wpF _ _ _)); with_reducible refine gg_eq (wpF_det (c1)) ?_) | tm_at "dl"))) <;> refine gg_in ?_
        all_goals first | exact ⟨_, _, _, _, _, _, hL2, rfl⟩ | (rename_i q; exact absurd (show rpG (.lst [.bl true, .bl true]) = rpG (.lst [.bl (decide (i ≤ M)), .bl (decide (i ≤ M))]) from by rw [decide_eq_true h2]) q)
      · have c1 := c_intF (v := i) (a := L) (b := M) (fun z => h2 z.2)
        have o1 := oLe_t h1
        have o2 := oLe_f h2
        ((with_reducible refine gg_out ?_) <;> (repeat' (solve | ((with_reducible show GG (wpF _ _ _)); with_reducible refine gg_eq (wpF_det (c1)) ?_) | tm_at "dl"))) <;> refine gg_in ?_
        all_goals first | exact ⟨_, _, _, _, _, _, hL2, rfl⟩ | (rename_i q; exact absurd (show rpG (.lst [.bl false, .bl false]) = rpG (.lst [.bl (decide (i ≤ M)), .bl (decide (i ≤ M))]) from by rw [decide_eq_false h2]) q)
    · have c1 := c_intF (v := i) (a := L) (b := M) (fun z => h1 z.1)
      have o1 := oLe_f h1
      ((with_reducible refine gg_out ?_) <;> (repeat' (solve | ((with_reducible show GG (wpF _ _ _)); with_reducible refine gg_eq (wpF_det (c1)) ?_) | tm_at "dl"))) <;> refine gg_in ?_
      all_goals exact ⟨_, _, _, _, _, _, hL2, rfl⟩
  · rintro S ⟨_, L, M, v1, v4, v6, v7, hL2, rfl⟩
    ((with_reducible refine gg_out ?_) <;> (repeat' (solve | ((with_reducible show GG (oP (cStr _) _)); refine gg_imp (i_str hL2) ?_) | ((with_reducible show GG (wp (fDic1 _ _ _) _)); with_reducible refine gg_eq wp_dic1 ?_) | ((with_reducible show GG (wp (mk1 _ _ _) _)); refine gg_imp (i_mk1 (by exact rfl)) ?_) | ((with_reducible show GG (wp (fMkX _ _ _ _) _)); with_reducible refine gg_imp i_mkX ?_) | ((with_reducible show GG (∃ _, _ = _ ∧ _)); refine gg_imp (fun h => ⟨_, rfl, h⟩) ?_) | tm_at "dl"))) <;> refine gg_in ?_
    with_reducible refine wp_lcF (I := fun r acc S => (∀ d ∈ r, kno d = true ∧ notI d = true) ∧ acc.length + r.length = 8 ∧ (∀ a ∈ acc, a = D.bl false) ∧ ∃ (v1 v4 v5 v6 v7 : SV), S = [.ol (some 0) b6, v1, .f (.int L), .f (.int M), v4, v5, v6, v7, .u]) ?_ ?_ ?_ ?_
    · exact ⟨odds8, rfl, (fun _ z => nomatch z), _, _, _, _, _, rfl⟩
    · simp only [List.length_cons, List.length_nil]; omega
    · rintro d r acc S ⟨hd, hl2, ha, v1, v4, v5, v6, v7, rfl⟩
      obtain ⟨q1, q2⟩ := hd _ List.mem_cons_self
      have cN : ∀ {lo hi : Int}, wpF F_is_integer [d, .int lo, .int hi] (· = .f (.bl false)) := c_intX q1 q2
      ((with_reducible refine gg_out ?_) <;> (repeat' (solve | ((with_reducible show GG (wpF _ _ _)); with_reducible refine gg_eq (wpF_det (cN)) ?_) | tm_at "dl"))) <;> refine gg_in ?_
      exact ⟨fun d hq => hd d (List.mem_cons_of_mem _ hq), by simp only [List.length_append, List.length_cons, List.length_nil] at *; omega, fun a hq => (List.mem_append.mp hq).elim (ha a) List.mem_singleton.mp, _, _, _, _, _, rfl⟩
    · rintro acc S ⟨_, hl2, ha, v1, v4, v5, v6, v7, rfl⟩
      have e : acc = List.replicate 8 (D.bl false) := List.eq_replicate_iff.mpr ⟨by simpa using hl2, ha⟩
      subst e
      ((with_reducible refine gg_out ?_) <;> (repeat' (solve | tm_at "dl"))) <;> refine gg_in ?_
      rw [show List.replicate (Int.toNat 8) (D.bl false) = List.replicate 8 (D.bl false) from rfl, decide_eq_true rfl]
      exact k _ (hb7.mono (by omega))
open PySem.NumText (AllDigits digitsVal)
open TL (numL tl)
theorem k_same {P : RV → List D → Prop} {A B : D} {b : List D} (e : A = B) (h : P (.f (.bl true)) b) : P (.f (.bl (decide (rpG A = rpG B)))) b := by
  subst e
  rw [decide_eq_true rfl]
  exact h
theorem c_valX {d : D} (hk : kno d = true) (hn : notI d = true) : wpF F_is_value [d] (· = .f (.bl false)) := by
  have := c_val hk
  cases d <;> first | (cases hn; done) | exact this
theorem c_valT {v : Int} (h1 : 0 ≤ v) (h2 : v ≤ 999999999) : wpF F_is_value [.int v] (· = .f (.bl true)) := by
  have := c_val (d := .int v) rfl
  rwa [show intB (.int v) 0 999999999 = true from decide_eq_true ⟨h1, h2⟩] at this
theorem c_valF {v : Int} (h : ¬ (0 ≤ v ∧ v ≤ 999999999)) : wpF F_is_value [.int v] (· = .f (.bl false)) := by
  have := c_val (d := .int v) rfl
  rwa [show intB (.int v) 0 999999999 = false from decide_eq_false h] at this
abbrev odV : List D := [D.non, .bl true, .bl false, .str (PySem.Str.ofString "0"), .lst [.int 5], .tup [.int 5], .dic [.inl 5] [.int 5], .dic [] [], .xob (PySem.Str.ofString "InvalidTarget") [PySem.Str.ofString "value"] [.int 5]]
theorem odds9 : ∀ d ∈ odV, kno d = true ∧ notI d = true := by
  simp only [List.forall_mem_cons]
  exact ⟨⟨rfl, rfl⟩, ⟨rfl, rfl⟩, ⟨rfl, rfl⟩, ⟨rfl, rfl⟩, ⟨rfl, rfl⟩, ⟨rfl, rfl⟩, ⟨rfl, rfl⟩, ⟨rfl, rfl⟩, ⟨rfl, rfl⟩, (fun _ z => nomatch z)⟩
set_option maxHeartbeats 800000 in
theorem w_vals {n : Int} {ds : List D} {P : RV → List D → Prop} (hb : Bx n ds) (hn : n ≤ 800000000) (k : ∀ ds', Bx (n+30) ds' → P (.f (.bl true)) ds') : wpB F_law_values_right ds [] P := by
  refine wpB_body ?_
  unfold B_law_values_right
  ((with_reducible refine gg_out ?_) <;> (repeat' (solve | ((with_reducible show GG (wpB F_law_take _ _ _)); refine gg_in (w_take (by assumption) (by omega) (by first | decide | omega) ?_); intro _ _ _ _ _; refine gg_out ?_) | tm_at "dl"))) <;> refine gg_in ?_
  rename_i x0 b0 a1 a2 a3 x1 b1 a4 a5 a6 x2 b2 a7 a8 hb3
  have e9 : (10 : Int) ^ Int.toNat 9 = 1000000000 := by decide
  with_reducible refine wo_for (I := fun r S => (∀ d ∈ r, ∃ i : Int, d = .int i) ∧ ∃ (nl : List D) (v2 : SV), S = [.ol (some 0) b2, .f (.lst nl), v2, .u, .u, .u]) ?_ ?_ ?_
  · refine ⟨?_, _, _, rfl⟩
    simp only [List.cons_append, List.nil_append, List.forall_mem_cons]
    exact ⟨⟨_, rfl⟩, ⟨_, rfl⟩, ⟨_, rfl⟩, ⟨_, rfl⟩, ⟨_, rfl⟩, ⟨_, rfl⟩, ⟨_, rfl⟩, (fun _ z => nomatch z)⟩
  · rintro d r S ⟨hd, nl, v2, rfl⟩
    obtain ⟨i, rfl⟩ := hd _ List.mem_cons_self
    have hd' : ∀ d ∈ r, ∃ i : Int, d = .int i := fun d hq => hd d (List.mem_cons_of_mem _ hq)
    by_cases h1 : 0 ≤ i
    · by_cases h2 : i ≤ 999999999
      · have c1 := c_valT h1 h2
        have h3 : i < 10 ^ Int.toNat 9 := by omega
        ((with_reducible refine gg_out ?_) <;> (repeat' (solve | ((with_reducible show GG (wpF _ _ _)); with_reducible refine gg_eq (wpF_det (c1)) ?_) | tm_at "dl"))) <;> refine gg_in ?_
        all_goals first | exact ⟨_, _, rfl⟩ | (rename_i q; exact absurd (show rpG (.lst [.bl true, .bl true]) = rpG (.lst (List.replicate (Int.toNat 2) (.bl (decide (i < 10 ^ Int.toNat 9))))) from by rw [decide_eq_true h3]; rfl) q)
      · have c1 := c_valF (v := i) (fun z => h2 z.2)
        have h3 : ¬ i < 10 ^ Int.toNat 9 := by omega
        ((with_reducible refine gg_out ?_) <;> (repeat' (solve | ((with_reducible show GG (wpF _ _ _)); with_reducible refine gg_eq (wpF_det (c1)) ?_) | tm_at "dl"))) <;> refine gg_in ?_
        all_goals first | exact ⟨_, _, rfl⟩ | (rename_i q; exact absurd (show rpG (.lst [.bl false, .bl false]) = rpG (.lst (List.replicate (Int.toNat 2) (.bl (decide (i < 10 ^ Int.toNat 9))))) from by rw [decide_eq_false h3]; rfl) q)
    · have c1 := c_valF (v := i) (fun z => h1 z.1)
      ((with_reducible refine gg_out ?_) <;> (repeat' (solve | ((with_reducible show GG (wpF _ _ _)); with_reducible refine gg_eq (wpF_det (c1)) ?_) | tm_at "dl"))) <;> refine gg_in ?_
      all_goals first | exact ⟨_, _, rfl⟩ | (rename_i q; exact absurd (show rpG (.lst [.bl false, .bl false]) = rpG (.lst (List.replicate (Int.toNat 2) (.bl false))) from rfl) q)
  · rintro S ⟨_, nl, v2, rfl⟩
    ((with_reducible refine gg_out ?_) <;> (repeat' (solve | ((with_reducible show GG (wp (fDic1 _ _ _) _)); with_reducible refine gg_eq wp_dic1 ?_) | ((with_reducible show GG (wp (mk1 _ _ _) _)); refine gg_imp (i_mk1 (by exact rfl)) ?_) | ((with_reducible show GG (wp (fMkX _ _ _ _) _)); with_reducible refine gg_imp i_mkX ?_) | ((with_reducible show GG (∃ _, _ = _ ∧ _)); refine gg_imp (fun h => ⟨_, rfl, h⟩) ?_) | tm_at "dl"))) <;> refine gg_in ?_
    with_reducible refine wp_lcF (I := fun r acc S => (∀ d ∈ r, kno d = true ∧ notI d = true) ∧ acc.length + r.length = 9 ∧ (∀ a ∈ acc, a = D.bl false) ∧ ∃ (v2 : SV), S = [.ol (some 0) b2, .f (.lst nl), v2, .f (.lst odV), .u, .u]) ?_ ?_ ?_ ?_
    · exact ⟨odds9, rfl, (fun _ z => nomatch z), _, rfl⟩
    · simp only [List.length_cons, List.length_nil]; omega
    · rintro d r acc S ⟨hd, hl2, ha, v2, rfl⟩
      obtain ⟨q1, q2⟩ := hd _ List.mem_cons_self
      have cN := c_valX q1 q2
      ((with_reducible refine gg_out ?_) <;> (repeat' (solve | ((with_reducible show GG (wpF _ _ _)); with_reducible refine gg_eq (wpF_det (cN)) ?_) | tm_at "dl"))) <;> refine gg_in ?_
      exact ⟨fun d hq => hd d (List.mem_cons_of_mem _ hq), by simp only [List.length_append, List.length_cons, List.length_nil] at *; omega, fun a hq => (List.mem_append.mp hq).elim (ha a) List.mem_singleton.mp, _, rfl⟩
    · rintro acc S ⟨_, hl2, ha, v2, rfl⟩
      have e : acc = List.replicate 9 (D.bl false) := List.eq_replicate_iff.mpr ⟨by simpa using hl2, ha⟩
      subst e
      ((with_reducible refine gg_out ?_) <;> (repeat' (solve | ((with_reducible show GG (oP (oCat (D.lst _) (D.lst _)) _)); first | (refine G_i_catL (by decide) ?_)) | tm_at "dl"))) <;> refine gg_in ?_
      with_reducible refine wp_lcF (I := fun r acc S => (∀ d ∈ r, kno d = true) ∧ acc ++ r.map (fun d => D.bl (isLT d)) = [D.bl false, .bl false, .bl false, .bl false, .bl true, .bl true, .bl false, .bl false, .bl false, .bl true, .bl true, .bl true, .bl true, .bl false] ∧ ∃ (v1 v2 v3 : SV), S = [.ol (some 0) b2, v1, v2, v3, .u, .u]) ?_ ?_ ?_ ?_
      · refine ⟨?_, rfl, _, _, _, rfl⟩
        simp only [odV, List.cons_append, List.nil_append, List.forall_mem_cons]
        exact ⟨rfl, rfl, rfl, rfl, rfl, rfl, rfl, rfl, rfl, rfl, rfl, rfl, rfl, rfl, (fun _ z => nomatch z)⟩
      · simp only [odV, List.cons_append, List.nil_append, List.length_cons, List.length_nil]; omega
      · rintro d r acc S ⟨hd, ha, v1, v2, v3, rfl⟩
        have cN := c_lstD (hd _ List.mem_cons_self)
        ((with_reducible refine gg_out ?_) <;> (repeat' (solve | ((with_reducible show GG (wpF _ _ _)); with_reducible refine gg_eq (wpF_det (cN)) ?_) | tm_at "dl"))) <;> refine gg_in ?_
        exact ⟨fun d hq => hd d (List.mem_cons_of_mem _ hq), by rw [List.append_assoc]; exact ha, _, _, _, rfl⟩
      · rintro acc S ⟨_, ha, v1, v2, v3, rfl⟩
        rw [List.map_nil, List.append_nil] at ha
        subst ha
        have cN := c_lstD (d := .lst []) rfl
        ((with_reducible refine gg_out ?_) <;> (repeat' (solve | ((with_reducible show GG (wpF _ _ _)); with_reducible refine gg_eq (wpF_det (cN)) ?_) | ((with_reducible show GG (oP (oCat (D.lst _) (D.lst _)) _)); first | (refine G_i_catL (by decide) ?_)) | tm_at "dl"))) <;> refine gg_in ?_
        exact k_same (by rfl) (k _ (hb3.mono (by omega)))
open PySem.NumText (AllDigits digitsVal)
open TL (numL tl)
/-- a dict by its pairs -/
abbrev dD (kvs : List (Key × D)) : D := .dic (kvs.map (·.1)) (kvs.map (·.2))
abbrev itm (p : Key × D) : D := .tup [kD p.1, p.2]
theorem items_map : ∀ kvs : List (Key × D), itemsD (kvs.map (·.1)) (kvs.map (·.2)) = kvs.map itm
  | [] => rfl
  | p :: kvs => by
    simp only [List.map_cons, itemsD, items_map kvs]
theorem kno_kD (k : Key) : kno (kD k) = true := by cases k <;> rfl
def itB (p : Key × D) : Bool := intB (kD p.1) 0 999999999 && intB p.2 0 999
def cntB (kvs : List (Key × D)) : Bool := decide (kvs.length ≤ 60) && kvs.all itB
theorem bls_map : ∀ bs : List Bool, blsOf (bs.map D.bl) = some bs
  | [] => rfl
  | b :: bs => by simp only [List.map_cons, blsOf, bls_map bs, Option.map_some]
theorem all_map {kvs : List (Key × D)} : cAll [.lst (kvs.map fun p => D.bl (itB p))] = some (.f (.bl (kvs.all itB))) := by
  have e : (kvs.map fun p => D.bl (itB p)) = (kvs.map itB).map D.bl := by rw [List.map_map]; rfl
  unfold cAll
  rw [e]
  simp only [bls_map, Option.map_some]
  rw [List.all_map]
  rfl
theorem len_dD {kvs : List (Key × D)} : cLenA [dD kvs] = some (.f (.int (kvs.length : Nat))) := by
  unfold cLenA
  simp only [List.length_map, if_true]
theorem c_counts {kvs : List (Key × D)} (hk : ∀ p ∈ kvs, kno p.2 = true) (hl : kvs.length ≤ 1000) : wpF F_is_counts [dD kvs] (· = .f (.bl (cntB kvs))) := by
  have hi := items_map kvs
  have hlen := len_dD (kvs := kvs)
  refine wpF_body ?_
  unfold B_is_counts
  unfold dD at *
  generalize hks : kvs.map (·.1) = ks at *
  generalize hds : kvs.map (·.2) = ds at *
  ((with_reducible refine gg_out ?_) <;> (repeat' (solve | ((with_reducible show GG (oP (cLenA _) _)); with_reducible refine gg_imp (oP_i (hlen)) ?_) | tm_at "dl"))) <;> refine gg_in ?_
  · rename_i h
    show _ = RV.f (.bl (cntB kvs))
    rw [show cntB kvs = false from by unfold cntB; rw [decide_eq_false (by omega)]; rfl]
  · rename_i h
    rw [hi]
    with_reducible refine wp_lcF (I := fun r acc S => ∃ l1 l2 : List (Key × D), kvs = l1 ++ l2 ∧ r = l2.map itm ∧ acc = l1.map (fun p => D.bl (itB p)) ∧ S = [.f (.dic ks ds), .u, .u]) ?_ ?_ ?_ ?_
    · exact ⟨[], kvs, rfl, rfl, rfl, rfl⟩
    · rw [List.length_map, List.length_nil]; omega
    · rintro d r acc S ⟨l1, l2, e1, e2, rfl, rfl⟩
      cases l2 with
      | nil => cases e2
      | cons p l2 =>
        cases e2
        have hp : kno p.2 = true := hk p (by rw [e1]; simp)
        have c1 := c_val (kno_kD p.1)
        have c2 := c_int (lo := 0) (hi := 999) hp
        have e3 : itB p = (intB (kD p.1) 0 999999999 && intB p.2 0 999) := rfl
        unfold itm
        generalize intB (kD p.1) 0 999999999 = q1 at *
        generalize intB p.2 0 999 = q2 at *
        generalize kD p.1 = kk at *
        cases q1
        · ((with_reducible refine gg_out ?_) <;> (repeat' (solve | ((with_reducible show GG (wpF _ _ _)); with_reducible refine gg_eq (wpF_det (c1)) ?_) | ((with_reducible show GG (wpF _ _ _)); with_reducible refine gg_eq (wpF_det (c2)) ?_) | tm_at "dl"))) <;> refine gg_in ?_
          exact ⟨l1 ++ [p], l2, by rw [e1]; simp, rfl, by rw [List.map_append, List.map_cons, List.map_nil, e3]; rfl, rfl⟩
        · ((with_reducible refine gg_out ?_) <;> (repeat' (solve | ((with_reducible show GG (wpF _ _ _)); with_reducible refine gg_eq (wpF_det (c1)) ?_) | ((with_reducible show GG (wpF _ _ _)); with_reducible refine gg_eq (wpF_det (c2)) ?_) | tm_at "dl"))) <;> refine gg_in ?_
          exact ⟨l1 ++ [p], l2, by rw [e1]; simp, rfl, by rw [List.map_append, List.map_cons, List.map_nil, e3]; rfl, rfl⟩
    · rintro acc S ⟨l1, l2, e1, e2, rfl, rfl⟩
      cases l2 with
      | cons c l2 => cases e2
      | nil =>
        rw [List.append_nil] at e1
        subst e1
        have e9 := all_map (kvs := kvs)
        rw [show cntB kvs = kvs.all itB from by unfold cntB; rw [decide_eq_true (by omega)]; rfl]
        ((with_reducible refine gg_out ?_) <;> (repeat' (solve | ((with_reducible show GG (oP (cAll _) _)); refine gg_imp (oP_i (e9)) ?_) | tm_at "dl"))) <;> refine gg_in ?_
        rfl
theorem cnt_no {kvs : List (Key × D)} {p : Key × D} (hp : p ∈ kvs) (h : itB p = false) : cntB kvs = false := by
  have e : kvs.all itB = false := by
    rw [Bool.eq_false_iff]
    intro z
    have := List.all_eq_true.mp z p hp
    rw [h] at this
    cases this
  unfold cntB
  rw [e, Bool.and_false]
theorem c_counted {kvs : List (Key × D)} (hk : ∀ p ∈ kvs, kno p.2 = true) (hl : kvs.length ≤ 1000) : wpF F_law_counted [dD kvs] (· = .f (.bl (cntB kvs))) := by
  have hi := items_map kvs
  have hlen := len_dD (kvs := kvs)
  have e9 : (10 : Int) ^ Int.toNat 9 = 1000000000 := by decide
  refine wpF_body ?_
  unfold B_law_counted
  unfold dD at *
  generalize hks : kvs.map (·.1) = ks at *
  generalize hds : kvs.map (·.2) = ds at *
  ((with_reducible refine gg_out ?_) <;> (repeat' (solve | ((with_reducible show GG (oP (cLenA _) _)); with_reducible refine gg_imp (oP_i (hlen)) ?_) | tm_at "dl"))) <;> refine gg_in ?_
  · rename_i h
    show _ = RV.f (.bl (cntB kvs))
    rw [show cntB kvs = false from by unfold cntB; rw [decide_eq_false (by omega)]; rfl]
  · rename_i h
    rw [hi]
    with_reducible refine wo_for (I := fun r S => ∃ (l1 l2 : List (Key × D)) (v1 v2 : SV), kvs = l1 ++ l2 ∧ r = l2.map itm ∧ l1.all itB = true ∧ S = [.f (.dic ks ds), v1, v2]) ?_ ?_ ?_
    · exact ⟨[], kvs, _, _, rfl, rfl, rfl, rfl⟩
    · rintro d r S ⟨l1, l2, v1, v2, e1, e2, ha, rfl⟩
      cases l2 with
      | nil => cases e2
      | cons p l2 =>
        cases e2
        have hp : kno p.2 = true := hk p (by rw [e1]; simp)
        have hm : p ∈ kvs := by rw [e1]; simp
        have yes : itB p = true → (l1 ++ [p]).all itB = true := fun h => by rw [List.all_append, ha, List.all_cons, h]; rfl
        have e1' : kvs = (l1 ++ [p]) ++ l2 := by rw [e1]; simp
        have no := cnt_no hm
        unfold itm
        generalize l1 ++ [p] = l3 at *
        obtain ⟨key, v⟩ := p
        cases key with
        | inr x =>
          have e3 : itB (.inr x, v) = false := rfl
          show oP (bAny (bCons (bName 1) (bCons (bName 2) bNil)) (.tup [.str x, v]) _) _
          ((with_reducible refine gg_out ?_) <;> (repeat' (solve | tm_at "dl"))) <;> refine gg_in ?_
          all_goals exact congrArg (fun b => RV.f (.bl b)) (no e3).symm
        | inl i =>
          show oP (bAny (bCons (bName 1) (bCons (bName 2) bNil)) (.tup [.int i, v]) _) _
          have e3 : itB (.inl i, v) = (decide (0 ≤ i ∧ i ≤ 999999999) && intB v 0 999) := rfl
          cases v <;> first | (cases hp; done) | skip
          case int j =>
            have e4 : intB (.int j) 0 999 = decide (0 ≤ j ∧ j ≤ 999) := rfl
            ((with_reducible refine gg_out ?_) <;> (repeat' (solve | tm_at "dl"))) <;> refine gg_in ?_
            all_goals first | exact congrArg (fun b => RV.f (.bl b)) (no (by rw [e3, e4]; simp; omega)).symm | exact ⟨l3, l2, _, _, e1', rfl, yes (by rw [e3, e4]; simp; omega), rfl⟩
          all_goals
            ((with_reducible refine gg_out ?_) <;> (repeat' (solve | tm_at "dl"))) <;> refine gg_in ?_
          all_goals first | exact congrArg (fun b => RV.f (.bl b)) (no (by rw [e3]; exact Bool.and_false _)).symm | trace_state
    · rintro S ⟨l1, l2, v1, v2, e1, e2, ha, rfl⟩
      cases l2 with
      | cons c l2 => cases e2
      | nil =>
        rw [List.append_nil] at e1
        subst e1
        rw [show cntB kvs = true from by unfold cntB; rw [decide_eq_true (by omega), ha]; rfl]
        ((with_reducible refine gg_out ?_) <;> (repeat' (solve | tm_at "dl"))) <;> refine gg_in ?_
        rfl
open PySem.NumText (AllDigits digitsVal)
open TL (numL tl)
def gk (k : Key) : Prop := (∃ i : Int, k = .inl i ∧ -1 ≤ i ∧ i ≤ 1000000000) ∨ k = .inr (PySem.Str.ofString "7")
def gv (v : D) : Prop := (∃ j : Int, v = .int j ∧ -1 ≤ j ∧ j ≤ 1000) ∨ v = .bl true ∨ v = .non ∨ v = .str (PySem.Str.ofString "3") ∨ v = .lst [.int 3]
def GL (n : Nat) (l : List (Key × D)) : Prop := (∀ p ∈ l, gk p.1 ∧ gv p.2) ∧ l.length ≤ n
theorem int_fa {i : Int} (h : -1 ≤ i ∧ i ≤ 1000000000) : (PyData.int i).showable = true ∧ (PyData.int i).leavesShort 45 = true ∧ (PyData.int i).depth = 0 ∧ (PyData.int i).weight ≤ 100 := by
  by_cases h0 : 0 ≤ i
  · have hb : (1000000000 : Int) < 10 ^ 25 := by decide
    have hi : rok (.int i) = true := by
      unfold rok
      exact decide_eq_true ⟨h0, by omega⟩
    obtain ⟨_, h2, _, h4, h5, h6⟩ := rok_py (.int i) hi
    refine ⟨h2, ?_, by simp [PyData.depth], h6⟩
    simp only [PyData.leavesShort, decide_eq_true_eq]
    exact Nat.le_trans (int_short ⟨h0, by omega⟩) (by decide)
  · have e : i = -1 := by omega
    subst e
    decide +kernel
theorem str_fa {x : Str} (h : (x.cps.toList.all fun c => decide (c < 16 ^ 8)) = true) (hl : x.cps.size ≤ 100) : (PyData.str x).showable = true ∧ (PyData.str x).leavesShort 45 = true ∧ (PyData.str x).depth = 0 ∧ (PyData.str x).weight ≤ 100 := ⟨by simp only [PyData.showable], by simp only [PyData.leavesShort]; exact h, by simp [PyData.depth], by simp only [PyData.weight]; exact hl⟩
theorem gk_fa {k : Key} (h : gk k) : (pk k).showable = true ∧ (pk k).leavesShort 45 = true ∧ (pk k).depth = 0 ∧ (pk k).weight ≤ 100 := by
  rcases h with ⟨i, rfl, h⟩ | rfl
  · exact int_fa h
  · exact str_fa (by decide +kernel) (by decide +kernel)
theorem gv_fa {v : D} (h : gv v) : knG v = true ∧ kno v = true ∧ (pyd v).showable = true ∧ (pyd v).leavesShort 45 = true ∧ (pyd v).depth ≤ 1 ∧ (pyd v).weight ≤ 101 := by
  rcases h with ⟨j, rfl, h1, h2⟩ | rfl | rfl | rfl | rfl
  · obtain ⟨a, b, c, d⟩ := int_fa (i := j) ⟨h1, by omega⟩
    exact ⟨rfl, rfl, a, b, by rw [show (pyd (.int j)).depth = 0 from c]; omega, Nat.le_trans d (by decide)⟩
  · decide +kernel
  · decide +kernel
  · decide +kernel
  · decide +kernel
theorem dic_fa : ∀ l : List (Key × D), (∀ p ∈ l, gk p.1 ∧ gv p.2) → knGL (l.map (·.2)) = true ∧ PyData.showableKv (zipK (l.map (·.1)) (pydL (l.map (·.2)))) = true ∧ PyData.leavesShortKv 45 (zipK (l.map (·.1)) (pydL (l.map (·.2)))) = true ∧ PyData.depthKv (zipK (l.map (·.1)) (pydL (l.map (·.2)))) ≤ 1 ∧ PyData.weightKv (zipK (l.map (·.1)) (pydL (l.map (·.2)))) ≤ 210 * l.length
  | [], _ => by simp [knGL, pydL, zipK, PyData.showableKv, PyData.leavesShortKv, PyData.depthKv, PyData.weightKv]
  | p :: l, h => by
    obtain ⟨h1, h2, h3, h4, h5⟩ := dic_fa l fun q hq => h q (List.mem_cons_of_mem _ hq)
    obtain ⟨hk, hv⟩ := h p List.mem_cons_self
    obtain ⟨a1, a2, a3, a4⟩ := gk_fa hk
    obtain ⟨b1, _, b2, b3, b4, b5⟩ := gv_fa hv
    simp only [List.map_cons, pydL, zipK, knGL, PyData.showableKv, PyData.leavesShortKv, PyData.depthKv, PyData.weightKv, List.length_cons]
    refine ⟨by rw [b1, h1]; rfl, by rw [a1, b2, h2]; rfl, by rw [a2, b3, h3]; rfl, by rw [a3]; omega, by omega⟩
theorem pyd_kD (k : Key) : pyd (kD k) = pk k := by cases k <;> simp only [kD, pyd, pk]
theorem itl_fa : ∀ l : List (Key × D), (∀ p ∈ l, gk p.1 ∧ gv p.2) → knGL (l.map itm) = true ∧ PyData.showableAll (pydL (l.map itm)) = true ∧ PyData.leavesShortAll 45 (pydL (l.map itm)) = true ∧ PyData.depthAll (pydL (l.map itm)) ≤ 2 ∧ PyData.weightAll (pydL (l.map itm)) ≤ 210 * l.length
  | [], _ => by simp [knGL, pydL, PyData.showableAll, PyData.leavesShortAll, PyData.depthAll, PyData.weightAll]
  | p :: l, h => by
    obtain ⟨h1, h2, h3, h4, h5⟩ := itl_fa l fun q hq => h q (List.mem_cons_of_mem _ hq)
    obtain ⟨hk, hv⟩ := h p List.mem_cons_self
    obtain ⟨a1, a2, a3, a4⟩ := gk_fa hk
    obtain ⟨b1, _, b2, b3, b4, b5⟩ := gv_fa hv
    have k1 : knG (kD p.1) = true := by cases p.1 <;> rfl
    simp only [List.map_cons, itm, pydL, pyd, pyd_kD, knGL, knG, PyData.showableAll, PyData.showable, PyData.leavesShortAll, PyData.leavesShort, PyData.depthAll, PyData.depth, PyData.weightAll, PyData.weight, List.length_cons]
    refine ⟨by rw [k1, b1]; exact h1, by rw [a1, b2]; exact h2, by rw [a2, b3]; exact h3, by rw [a3]; omega, by omega⟩
theorem dic_ok {n : Nat} {l : List (Key × D)} (h : GL n l) (hn : n ≤ 300) : okShG (dD l) = true := by
  obtain ⟨h1, h2, h3, h4, h5⟩ := dic_fa l h.1
  have := h.2
  unfold okShG dD
  simp only [tpG, pyG, h1, PyData.showable, h2, PyData.leavesShort, h3, PyData.depth, PyData.weight, Bool.true_and, Bool.and_eq_true, decide_eq_true_eq]
  omega
theorem itl_ok {n : Nat} {l : List (Key × D)} (h : GL n l) (hn : n ≤ 300) : okShG (.lst (l.map itm)) = true := by
  obtain ⟨h1, h2, h3, h4, h5⟩ := itl_fa l h.1
  have := h.2
  unfold okShG
  simp only [tpG, knG, pyG, pyd, h1, PyData.showable, h2, PyData.leavesShort, h3, PyData.depth, PyData.weight, Bool.true_and, Bool.and_eq_true, decide_eq_true_eq]
  omega
theorem c_countsX {d : D} (hk : kno d = true) (hd : isDic d = false) : wpF F_is_counts [d] (· = .f (.bl false)) := by
  refine wpF_body ?_
  unfold B_is_counts
  ((with_reducible refine gg_out ?_) <;> (repeat' (solve | tm_at "dl"))) <;> refine gg_in ?_
  refine i_isDic hk ?_
  rw [hd]
  ((with_reducible refine gg_out ?_) <;> (repeat' (solve | tm_at "dl"))) <;> refine gg_in ?_
  all_goals rfl
theorem c_countedX {d : D} (hk : kno d = true) (hd : isDic d = false) : wpF F_law_counted [d] (· = .f (.bl false)) := by
  refine wpF_body ?_
  unfold B_law_counted
  ((with_reducible refine gg_out ?_) <;> (repeat' (solve | tm_at "dl"))) <;> refine gg_in ?_
  refine i_isDic hk ?_
  rw [hd]
  ((with_reducible refine gg_out ?_) <;> (repeat' (solve | tm_at "dl"))) <;> refine gg_in ?_
  all_goals rfl
def Th (d : D) : Prop := okShG d = true ∧ ∃ b, wpF F_law_counted [d] (· = .f (.bl b)) ∧ wpF F_is_counts [d] (· = .f (.bl b))
theorem th_dic {n : Nat} {l : List (Key × D)} (h : GL n l) (hn : n ≤ 300) : Th (dD l) := ⟨dic_ok h hn, cntB l, c_counted (fun p hp => (gv_fa (h.1 p hp).2).2.1) (by have := h.2; omega), c_counts (fun p hp => (gv_fa (h.1 p hp).2).2.1) (by have := h.2; omega)⟩
theorem th_X {d : D} (ok : okShG d = true) (hk : kno d = true) (hd : isDic d = false) : Th d := ⟨ok, false, c_countedX hk hd, c_countsX hk hd⟩
theorem set_map {k : Key} {v : D} : ∀ l : List (Key × D), setK (l.map (·.1)) (l.map (·.2)) k v = (l.map fun p => if p.1 = k then (p.1, v) else p).map (·.2)
  | [] => rfl
  | p :: l => by
    simp only [List.map_cons, setK, set_map l]
    by_cases h : p.1 = k <;> simp [h]
theorem set_keys {k : Key} {v : D} (l : List (Key × D)) : (l.map fun p => if p.1 = k then (p.1, v) else p).map (·.1) = l.map (·.1) := by
  rw [List.map_map]
  refine List.map_congr_left fun p _ => ?_
  show (if p.1 = k then (p.1, v) else p).1 = p.1
  split <;> rfl
theorem GL.set {n : Nat} {l : List (Key × D)} {k : Key} {v : D} (h : GL n l) (hv : gv v) : GL n (l.map fun p => if p.1 = k then (p.1, v) else p) := by
  refine ⟨fun q hq => ?_, by rw [List.length_map]; exact h.2⟩
  obtain ⟨p, hp, rfl⟩ := List.mem_map.mp hq
  split
  · exact ⟨(h.1 p hp).1, hv⟩
  · exact h.1 p hp
theorem GL.snoc {n : Nat} {l : List (Key × D)} {k : Key} {v : D} (h : GL n l) (hk : gk k) (hv : gv v) : GL (n + 1) (l ++ [(k, v)]) := by
  refine ⟨fun q hq => ?_, by rw [List.length_append]; have := h.2; simp; omega⟩
  rcases List.mem_append.mp hq with hq | hq
  · exact h.1 q hq
  · rw [List.mem_singleton.mp hq]
    exact ⟨hk, hv⟩
theorem GL.up {n m : Nat} {l : List (Key × D)} (h : GL n l) (hm : n ≤ m) : GL m l := ⟨h.1, Nat.le_trans h.2 hm⟩
theorem GL.put {n : Nat} {l : List (Key × D)} {k : Key} {v : D} (h : GL n l) (hk : gk k) (hv : gv v) : GL (n + 1) (putD l k v) := by
  unfold putD
  split
  · exact (h.set hv).up (by omega)
  · exact h.snoc hk hv
theorem GL.merge : ∀ {more : List (Key × D)} {n m : Nat} {l : List (Key × D)}, GL n l → GL m more → GL (n + m) (mergeD l more)
  | [], n, m, l, h, _ => h.up (by omega)
  | p :: more, n, m, l, h, hm => by
    have hp := hm.1 p List.mem_cons_self
    have hl : more.length ≤ m - 1 := by have := hm.2; simp only [List.length_cons] at this; omega
    have h0 : 0 < m := by have := hm.2; simp only [List.length_cons] at this; omega
    have := GL.merge (n := n + 1) (m := m - 1) (h.put hp.1 hp.2) ⟨fun q hq => hm.1 q (List.mem_cons_of_mem _ hq), hl⟩
    rw [show n + 1 + (m - 1) = n + m by omega] at this
    exact this
theorem keyD_kD (k : Key) : keyD (kD k) = some k := by cases k <;> rfl
theorem pairs_map : ∀ l : List (Key × D), pairsD (l.map itm) = some l
  | [] => rfl
  | p :: l => by
    simp only [List.map_cons, pairsD, pairs_map l, itm, pairD, keyD_kD, Option.map_some, Option.bind_some]
theorem i_dictG {n : Nat} {l : List (Key × D)} {P : RV → Prop} (h : GL n l) (k : ∀ l', GL n l' → P (.od (l'.map (·.1)) (l'.map (·.2)))) : oP (cDict [.lst (l.map itm)]) P := by
  unfold cDict
  simp only [pairs_map]
  have := GL.merge (l := []) (n := 0) (m := n) ⟨(fun _ z => nomatch z), Nat.le_refl _⟩ h
  rw [Nat.zero_add] at this
  exact k _ this
theorem i_cutG {n : Nat} {l : List (Key × D)} {lo hi : Option Int} {P : RV → Prop} (h : GL n l) (k : ∀ l', GL n l' → P (.ol (l'.map itm))) : oP (oSl (.lst (l.map itm)) lo hi) P := by
  have e : ∀ a b, ((l.map itm).drop a).take b = ((l.drop a).take b).map itm := fun a b => by rw [List.map_take, List.map_drop]
  show P (.ol (cutD (l.map itm) lo hi))
  unfold cutD
  rw [e]
  exact k _ ⟨fun q hq => h.1 q (List.mem_of_mem_drop (List.mem_of_mem_take hq)), by rw [List.length_take, List.length_drop]; have := h.2; omega⟩
theorem i_catG {n m : Nat} {a b : List (Key × D)} {P : RV → Prop} (ha : GL n a) (hb : GL m b) (hn : n + m ≤ 1000) (k : ∀ l', GL (n + m) l' → P (.ol (l'.map itm))) : oP (oCat (.lst (a.map itm)) (.lst (b.map itm))) P := by
  have h1 := ha.2
  have h2 := hb.2
  unfold oCat
  simp only [List.length_map, if_pos (show a.length + b.length ≤ 100000 by omega), ← List.map_append]
  exact k _ ⟨fun q hq => (List.mem_append.mp hq).elim (ha.1 q) (hb.1 q), by rw [List.length_append]; omega⟩
def itL : D → Option RV
  | .dic ks ds => if ks.length = ds.length ∧ ds.length ≤ 100000 then some (.ol (itemsD ks ds)) else none
  | _ => none
def rvL : D → Option RV
  | .lst ds => some (.ol ds.reverse)
  | _ => none
theorem wp_ItemsL {f1 : Sl → Rs NV} {S : Sl} {P : RV → Sl → Prop} : wp (fItemsL f1 S) P = wp (f1 S) fun n S1 => oP (view S1 n) fun d => oP (itL d) fun o => P o S1 := by
  unfold fItemsL
  rw [wp_bind]
  congr
  funext n S1
  cases view S1 n with
  | none => rfl
  | some d =>
    cases d <;> try rfl
    rename_i ks ds
    show wp (if ks.length = ds.length ∧ ds.length ≤ 100000 then .ok (.ol (itemsD ks ds)) S1 else .no) P = oP (if ks.length = ds.length ∧ ds.length ≤ 100000 then some (RV.ol (itemsD ks ds)) else none) _
    split <;> rfl
theorem wp_RevL {f1 : Sl → Rs NV} {S : Sl} {P : RV → Sl → Prop} : wp (fRevL f1 S) P = wp (f1 S) fun n S1 => oP (view S1 n) fun d => oP (rvL d) fun o => P o S1 := by
  unfold fRevL
  rw [wp_bind]
  congr
  funext n S1
  cases view S1 n with
  | none => rfl
  | some d => cases d <;> rfl
theorem i_itG {n : Nat} {l : List (Key × D)} {P : RV → Prop} (h : GL n l) (hn : n ≤ 1000) (k : P (.ol (l.map itm))) : oP (itL (.dic (l.map (·.1)) (l.map (·.2)))) P := by
  have := h.2
  unfold itL
  simp only [List.length_map, items_map]
  rw [if_pos ⟨trivial, by omega⟩]
  exact k
theorem i_rvG {n : Nat} {l : List (Key × D)} {P : RV → Prop} (h : GL n l) (k : ∀ l', GL n l' → P (.ol (l'.map itm))) : oP (rvL (.lst (l.map itm))) P := by
  show P (.ol (l.map itm).reverse)
  rw [← List.map_reverse]
  exact k _ ⟨fun q hq => h.1 q (List.mem_reverse.mp hq), by rw [List.length_reverse]; exact h.2⟩
theorem i_ixP {ds : List D} {i : Int} {P : RV → Prop} (h : 0 ≤ i ∧ i < (ds.length : Nat)) (hd : ∀ d ∈ ds, ∃ p : Key × D, d = .dic [p.1] [p.2] ∧ gk p.1 ∧ gv p.2) (k : ∀ l, GL 1 l → P (.f (.dic (l.map (·.1)) (l.map (·.2))))) : oP (oIx (.lst ds) (.int i)) P := by
  refine i_ixL h fun d q _ => ?_
  obtain ⟨p, rfl, h1⟩ := hd d q
  exact k [p] ⟨fun q hq => by rw [List.mem_singleton.mp hq]; exact h1, Nat.le_refl _⟩
theorem i_putG {n : Nat} {l : List (Key × D)} {S : Sl} {j : Nat} {t : Option Nat} {k : Key} {v : D} {N : Sl → Prop} {R : RV → Sl → Prop} {B C : Sl → Prop} (e : S[j]? = some (.od t (l.map (·.1)) (l.map (·.2)))) (h : GL n l) (hn : n ≤ 1000) (hk : gk k) (hv : gv v)
    (kk : ∀ l', GL (n + 1) l' → wo (.nx (S.set j (.od t (l'.map (·.1)) (l'.map (·.2))))) N R B C) : odAt S j fun t ks ds => ds.length < 100000 ∧ wo (match lookK ks ds k with
      | some _ => .nx (S.set j (.od t ks (setK ks ds k v)))
      | none => .nx (S.set j (.od t (ks ++ [k]) (ds ++ [v])))) N R B C := by
  unfold odAt
  rw [e]
  simp only []
  have := h.2
  refine ⟨by rw [List.length_map]; omega, ?_⟩
  cases lookK (l.map (·.1)) (l.map (·.2)) k with
  | none =>
    have q := kk _ (h.snoc hk hv)
    rw [List.map_append, List.map_append] at q
    exact q
  | some _ =>
    have q := kk _ ((h.set (k := k) hv).up (by omega))
    rw [set_keys, ← set_map] at q
    exact q
open PySem.NumText (AllDigits digitsVal)
open TL (numL tl)
theorem sizes {x : Int} (h : 0 ≤ x ∧ x < 60) : ∀ d ∈ [D.int 0, .int 3, .int 60, .int 61, .int x], ∃ j : Int, d = .int j ∧ 0 ≤ j ∧ j ≤ 61 := by
  simp only [List.forall_mem_cons]
  exact ⟨⟨_, rfl, by decide, by decide⟩, ⟨_, rfl, by decide, by decide⟩, ⟨_, rfl, by decide, by decide⟩, ⟨_, rfl, by decide, by decide⟩, ⟨_, rfl, by omega, by omega⟩, (fun _ z => nomatch z)⟩
theorem somes : ∀ d ∈ [D.dic [.inl (-1)] [.int 3], .dic [.inl (10 ^ Int.toNat 9)] [.int 3], .dic [.inr (PySem.Str.ofString "7")] [.int 3], .dic [.inl 7] [.int 1000], .dic [.inl 7] [.int (-1)], .dic [.inl 7] [.bl true], .dic [.inl 7] [.non], .dic [.inl 7] [.str (PySem.Str.ofString "3")], .dic [.inl 7] [.lst [.int 3]]], ∃ p : Key × D, d = .dic [p.1] [p.2] ∧ gk p.1 ∧ gv p.2 := by
  have g7 : gk (.inl 7) := .inl ⟨7, rfl, by decide, by decide⟩
  simp only [List.forall_mem_cons]
  exact ⟨⟨(_, _), rfl, .inl ⟨-1, rfl, by decide, by decide⟩, .inl ⟨3, rfl, by decide, by decide⟩⟩, ⟨(_, _), rfl, .inl ⟨10 ^ Int.toNat 9, rfl, by decide, by decide⟩, .inl ⟨3, rfl, by decide, by decide⟩⟩, ⟨(_, _), rfl, .inr rfl, .inl ⟨3, rfl, by decide, by decide⟩⟩, ⟨(_, _), rfl, g7, .inl ⟨1000, rfl, by decide, by decide⟩⟩, ⟨(_, _), rfl, g7, .inl ⟨-1, rfl, by decide, by decide⟩⟩,
    ⟨(_, _), rfl, g7, .inr (.inl rfl)⟩, ⟨(_, _), rfl, g7, .inr (.inr (.inl rfl))⟩, ⟨(_, _), rfl, g7, .inr (.inr (.inr (.inl rfl)))⟩, ⟨(_, _), rfl, g7, .inr (.inr (.inr (.inr rfl)))⟩, (fun _ z => nomatch z)⟩
set_option maxHeartbeats 800000 in
theorem w_counts {n : Int} {ds : List D} {P : RV → List D → Prop} (hb : Bx n ds) (hn : n ≤ 800000000) (k : ∀ ds', Bx (n+300) ds' → P (.f (.bl true)) ds') : wpB F_law_counts_right ds [] P := by
  refine wpB_body ?_
  unfold B_law_counts_right
  ((with_reducible refine gg_out ?_) <;> (repeat' (solve | ((with_reducible show GG (wpB F_law_take _ _ _)); refine gg_in (w_take (by assumption) (by omega) (by first | decide | omega) ?_); intro _ _ _ _ _; refine gg_out ?_) | ((with_reducible show GG (oP (oIx (D.lst [_, _, _, _, _]) (D.int _)) _)); refine gg_in (i_ixI ⟨by omega, by show _ < ((5 : Nat) : Int); omega⟩ (sizes ⟨by omega, by omega⟩) fun _ _ _ => gg_out ?_)) | tm_at "dl"))) <;> refine gg_in ?_
  rename_i x0 b0 a1 a2 a3 x1 b1 a4 a5 hb2 c c1 c2
  obtain ⟨m, rfl⟩ := natI (d := c) (by omega)
  rw [Int.toNat_natCast]
  with_reducible refine wo_forR0 (I := fun j S => ∃ (l : List (Key × D)) (bx : List D) (v2 v7 : SV), GL j l ∧ Bx (n + 2 + 3 * (j : Nat)) bx ∧ S = [.ol (some 0) bx, .od none (l.map (·.1)) (l.map (·.2)), v2, .u, .u, .u, .u, v7, .u, .u, .u, .u]) ?_ ?_ ?_
  · exact ⟨[], _, _, _, ⟨(fun _ z => nomatch z), Nat.le_refl _⟩, hb2.mono (by omega), rfl⟩
  · rintro j S hj ⟨l, bx, v2, v7, hl, hbx, rfl⟩
    ((with_reducible refine gg_out ?_) <;> (repeat' (solve | ((with_reducible show GG (wpB F_law_take _ _ _)); refine gg_in (w_take (by assumption) (by omega) (by first | decide | omega) ?_); intro _ _ _ _ _; refine gg_out ?_) | tm_at "dl"))) <;> refine gg_in ?_
    rename_i y1 b3 e1 e2 e3 dk hk y2 b4 e4 e5 e6 dv hv
    refine i_putG (n := j) (l := l) rfl hl (by omega) (.inl ⟨dk, rfl, by omega, by omega⟩) (.inl ⟨dv, rfl, by omega, by omega⟩) fun l' hl' => ?_
    ((with_reducible refine gg_out ?_) <;> (repeat' (solve | tm_at "dl"))) <;> refine gg_in ?_
    exact ⟨l', b4, _, _, hl', e6.mono (by omega), rfl⟩
  · rintro S ⟨l, bx, v2, v7, hl, hbx, rfl⟩
    have hl2 := hl.2
    ((with_reducible refine gg_out ?_) <;> (repeat' (solve | ((with_reducible show GG (wp (fDic1 _ _ _) _)); with_reducible refine gg_eq wp_dic1 ?_) | ((with_reducible show GG (wp (mk1 _ _ _) _)); refine gg_imp (i_mk1 (by exact rfl)) ?_) | ((with_reducible show GG (wp (fItemsL _ _) _)); with_reducible refine gg_eq wp_ItemsL ?_) | ((with_reducible show GG (wp (fRevL _ _) _)); with_reducible refine gg_eq wp_RevL ?_) | ((with_reducible show GG (oP (itL _) _)); refine gg_imp (i_itG (by assumption) (by omega)) ?_) | ((with_reducible show GG (oP (rvL _) _)); refine gg_in (i_rvG (by assumption) fun _ _ => gg_out ?_)) | ((with_reducible show GG (oP (oSl (D.lst (List.map itm _)) _ _) _)); refine gg_in (i_cutG (by assumption) fun _ _ => gg_out ?_)) | ((with_reducible show GG (oP (cLenA [D.dic (List.map _ _) _]) _)); refine gg_imp (oP_i len_dD) ?_) | ((with_reducible show GG (wpB F_law_take _ _ _)); refine gg_in (w_take (by assumption) (by omega) (by first | decide | omega) ?_); intro _ _ _ _ _; refine gg_out ?_) | ((with_reducible show GG (oP (oIx (D.lst [_, _, _, _, _, _, _, _, _]) (D.int _)) _)); refine gg_in (i_ixP ⟨by omega, by show _ < ((9 : Nat) : Int); omega⟩ somes fun _ _ => gg_out ?_)) | ((with_reducible show GG (oP (oCat (D.lst (List.map itm _)) (D.lst (List.map itm _))) _)); refine gg_in (i_catG (by assumption) (by assumption) (by omega) fun _ _ => gg_out ?_)) | ((with_reducible show GG (oP (cDict [D.lst (List.map itm _)]) _)); refine gg_in (i_dictG (by assumption) fun _ _ => gg_out ?_)) | tm_at "dl"))) <;> refine gg_in ?_
    rename_i l1 g1 x2 b3 a6 a7 a8 x3 b4 a9 a10 hb5 l2 g2 l3 g3 l4 g4 l5 g5 l6 g6 l7 g7 l8 g8 l9 g9
    have t1 : Th (dD l) := th_dic hl (by omega)
    have t2 : Th (dD l7) := th_dic g7 (by omega)
    have t3 : Th (dD l9) := th_dic g9 (by omega)
    have t4 : Th (.lst (l.map itm)) := th_X (itl_ok hl (by omega)) rfl rfl
    with_reducible refine wo_for (I := fun r S => (∀ d ∈ r, Th d) ∧ ∃ (v1 v2 v3 v4 v5 v6 v7 v8 v9 v10 v11 : SV), S = [.ol (some 0) b4, v1, v2, v3, v4, v5, v6, v7, v8, v9, v10, v11]) ?_ ?_ ?_
    · refine ⟨?_, _, _, _, _, _, _, _, _, _, _, _, rfl⟩
      simp only [List.forall_mem_cons]
      exact ⟨t1, t2, t3, th_X (by decide +kernel) rfl rfl, th_X (by decide +kernel) rfl rfl, th_X (by decide +kernel) rfl rfl, th_X (by decide +kernel) rfl rfl, th_X (by decide +kernel) rfl rfl, th_X (by decide +kernel) rfl rfl, t4, th_dic (l := []) (n := 0) ⟨(fun _ z => nomatch z), Nat.le_refl _⟩ (by decide), (fun _ z => nomatch z)⟩
    · rintro d r S ⟨hd, v1, v2, v3, v4, v5, v6, v7, v8, v9, v10, v11, rfl⟩
      obtain ⟨ok, b, q1, q2⟩ := hd _ List.mem_cons_self
      have hd' : ∀ d ∈ r, Th d := fun d hq => hd d (List.mem_cons_of_mem _ hq)
      have hc : cReprG [d] = some (.f (.str (rpG d))) := cg_same rfl ok
      generalize rpG d = tx at hc
      ((with_reducible refine gg_out ?_) <;> (repeat' (solve | ((with_reducible show GG (wpF _ _ _)); with_reducible refine gg_eq (wpF_det (q1)) ?_) | ((with_reducible show GG (wpF _ _ _)); with_reducible refine gg_eq (wpF_det (q2)) ?_) | ((with_reducible show GG (oP (cReprG [d]) _)); refine gg_imp (oP_i hc) ?_) | tm_at "dl"))) <;> refine gg_in ?_
      all_goals first | exact ⟨_, _, _, _, _, _, _, _, _, _, _, rfl⟩ | (rename_i q; exact absurd rfl q) | trace_state
    · rintro S ⟨_, v1, v2, v3, v4, v5, v6, v7, v8, v9, v10, v11, rfl⟩
      ((with_reducible refine gg_out ?_) <;> (repeat' (solve | tm_at "dl"))) <;> refine gg_in ?_
      exact k _ (hb5.mono (by omega))
theorem c_cell {ns : List Int} {k : Nat} : wpF F_law_cell [.scr ns, .int (k : Nat)] (fun r => ∃ x, r = .f (.int x)) := by
  refine wpF_body ?_
  unfold B_law_cell
  ((with_reducible refine gg_out ?_) <;> (repeat' (solve | ((with_reducible show GG (oP (oIx (D.scr _) (D.int _)) _)); first | (refine G_i_ixZ (by exact ⟨by omega, by omega⟩) ?_; intro _ _ _)) | tm_at "dl"))) <;> refine gg_in ?_
  · exact ⟨_, rfl⟩
  · exact ⟨_, rfl⟩
theorem c_box {x : Int} : wpF F_law_box [.int x] (fun r => ∃ ds, r = .ol ds ∧ Bx 0 ds) := by
  refine wpF_body ?_
  unfold B_law_box
  ((with_reducible refine gg_out ?_) <;> (repeat' (solve | tm_at "dl"))) <;> refine gg_in ?_
  rename_i m hm
  exact ⟨_, rfl, m, _, 0, rfl, by omega, Int.emod_nonneg _ (by decide), Int.emod_lt_of_pos _ (by decide), by decide, by decide⟩
theorem law_true : ∀ ns : List Int, ns.length ≤ 63 → ∃ S', F_law [.f (.scr ns)] = .ok (.f (.bl true)) S' := by
  intro ns hns
  have main : wpF F_law [.scr ns] (· = .f (.bl true)) := by
    unfold F_law
    refine wpF_body ?_
    unfold B_law
    ((with_reducible refine gg_out ?_) <;> (repeat' (solve | tm_at "dl"))) <;> refine gg_in ?_
    rename_i m1 hm1 m hm
    have hm8 : m ≤ 8 := by omega
    obtain ⟨n, rfl⟩ := natI (d := m) (by omega)
    rw [Int.toNat_natCast]
    refine wo_forR0 (I := fun j S => ∃ v1 v2 v3, S = [.f (.scr ns), v1, v2, v3]) ⟨_, _, _, rfl⟩ ?_ ?_
    · rintro j S hj ⟨v1, v2, v3, rfl⟩
      ((with_reducible refine gg_out ?_) <;> (repeat' (solve | tm_at "dl"))) <;> refine gg_in ?_
      refine wpF_mono c_cell ?_
      rintro _ ⟨cell, rfl⟩
      ((with_reducible refine gg_out ?_) <;> (repeat' (solve | tm_at "dl"))) <;> refine gg_in ?_
      refine wpF_mono c_box ?_
      rintro _ ⟨bx, rfl, hbx⟩
      ((with_reducible refine gg_out ?_) <;> (repeat' (solve | tm_at "dl"))) <;> refine gg_in ?_
      refine wo_forR0 (I := fun t S => ∃ (v3 : SV) (bx : List D), Bx (1000 * (t : Nat)) bx ∧ S = [.f (.scr ns), .f (.int (j : Nat)), .ol none bx, v3]) ⟨_, bx, hbx.mono (by omega), rfl⟩ ?_ ?_
      · rintro t S ht ⟨v3, bx, hbx, rfl⟩
        have ht3 : t < 4 := ht
        ((with_reducible refine gg_out ?_) <;> (repeat' (solve | tm_at "dl"))) <;> refine gg_in ?_
        refine w_counts hbx (by omega) fun bx1 hbx1 => ?_
        ((with_reducible refine gg_out ?_) <;> (repeat' (solve | tm_at "dl"))) <;> refine gg_in ?_
        refine w_names hbx1 (by omega) fun bx2 hbx2 => ?_
        ((with_reducible refine gg_out ?_) <;> (repeat' (solve | tm_at "dl"))) <;> refine gg_in ?_
        refine w_ints hbx2 (by omega) fun bx3 hbx3 => ?_
        ((with_reducible refine gg_out ?_) <;> (repeat' (solve | tm_at "dl"))) <;> refine gg_in ?_
        refine w_vals hbx3 (by omega) fun bx4 hbx4 => ?_
        ((with_reducible refine gg_out ?_) <;> (repeat' (solve | tm_at "dl"))) <;> refine gg_in ?_
        exact ⟨_, bx4, hbx4.mono (by omega), rfl⟩
      · rintro S ⟨v3, bx, hbx, rfl⟩
        exact ⟨_, _, _, rfl⟩
    · rintro S ⟨v1, v2, v3, rfl⟩
      ((with_reducible refine gg_out ?_) <;> (repeat' (solve | tm_at "dl"))) <;> refine gg_in ?_
      rfl
  obtain ⟨r, S', h1, _, rfl⟩ := main
  exact ⟨S', h1⟩
end DL
namespace DL
open PySem L2
abbrev lvl_law : Nat := 5
abbrev par_law : Str := "_law_script"
end DL
set_option Elab.async false
set_option linter.all false
set_option maxRecDepth 100000
open PySem PySem.W PyProof.Rows
set_option maxRecDepth 100000 in
set_option maxHeartbeats 0 in
theorem PySem.Challenge.cw_switchlayout_k02_targets_integers_and_va_holds : PySem.Challenge.rw_switchlayout_k02_targets_integers_and_va.Holds := by
  w_on; o_law; k_head; (case hw => w_witness2)
  k_fill
  refine DL.walk_den (l := PySem.Challenge.rw_switchlayout_k02_targets_integers_and_va) (k := DL.lvl_law) (x := DL.par_law) (F := DL.F_law) rfl rfl ⟨⟨rfl, by decide, by decide⟩, rfl⟩ (fun w h Y => PySem.W.kIn_of Y) ?F ?T
  case T => exact DL.law_true
  case F =>
    intro w mg fa h KX G hmg
    replace hmg : mg "law" = some (.ref fa) := hmg
    have wd := DL.wd_of KX G
    refine' (fun T => DL.law_end wd (DL.Txt.t_law T) hmg (fun _ _ _ _ _ _ _ => rfl) fun base => DL.fd_all (P := _) (w := w) (base := base) wd T) ?TT
    case TT =>
      refine' ⟨?n_max, ?n_int, ?n_len, ?n_bool, ?n_isinstance, ?n_dict, ?g_LAST_VALUE, ?g_MOST_TIMES, ?n_all, ?g_MOST_COUNTED, ?n_list, ?n_repr, ?n_range, ?g_LETTERS, ?g_LONGEST_TARGET, ?n_str, ?x_InvalidTarget, ?n_min, ?n_tuple, ?t_law_box, ?t_law_cell, ?t_law_take, ?t_law_counted, ?t_is_integer, ?t_is_value, ?t_is_counts, ?t_law_counts_right, ?t_law_word, ?t_is_target, ?t_law_named, ?t_law_names_right, ?t_law_integers_right, ?t_is_list, ?t_law_values_right, ?t_law⟩
      (case n_max => (refine' wd.no ?zn_max; (case zn_max => k_is)))
      (case n_int => (refine' wd.no ?zn_int; (case zn_int => k_is)))
      (case n_len => (refine' wd.no ?zn_len; (case zn_len => k_is)))
      (case n_bool => (refine' wd.no ?zn_bool; (case zn_bool => k_is)))
      (case n_isinstance => (refine' wd.no ?zn_isinstance; (case zn_isinstance => k_is)))
      (case n_dict => (refine' wd.no ?zn_dict; (case zn_dict => k_is)))
      (case g_LAST_VALUE => (refine' DL.gint_mk wd ?zg_LAST_VALUE; (case zg_LAST_VALUE => k_is)))
      (case g_MOST_TIMES => (refine' DL.gint_mk wd ?zg_MOST_TIMES; (case zg_MOST_TIMES => k_is)))
      (case n_all => (refine' wd.no ?zn_all; (case zn_all => k_is)))
      (case g_MOST_COUNTED => (refine' DL.gint_mk wd ?zg_MOST_COUNTED; (case zg_MOST_COUNTED => k_is)))
      (case n_list => (refine' wd.no ?zn_list; (case zn_list => k_is)))
      (case n_repr => (refine' wd.no ?zn_repr; (case zn_repr => k_is)))
      (case n_range => (refine' wd.no ?zn_range; (case zn_range => k_is)))
      (case g_LETTERS => (refine' DL.gstr_mk wd ?zg_LETTERS; (case zg_LETTERS => k_is)))
      (case g_LONGEST_TARGET => (refine' DL.gint_mk wd ?zg_LONGEST_TARGET; (case zg_LONGEST_TARGET => k_is)))
      (case n_str => (refine' wd.no ?zn_str; (case zn_str => k_is)))
      (case x_InvalidTarget => (refine' DL.xc_mk (ql := "InvalidTarget.__init__") wd rfl ?nC_x_InvalidTarget ?nB_x_InvalidTarget ?xL_x_InvalidTarget ?hbm_x_InvalidTarget ?sa_x_InvalidTarget ?ga_x_InvalidTarget ?gg_x_InvalidTarget ?nb_x_InvalidTarget ?a1_x_InvalidTarget ?t1_x_InvalidTarget ?l1_x_InvalidTarget ?c1_x_InvalidTarget ?kI_x_InvalidTarget ?kC_x_InvalidTarget ?eC_x_InvalidTarget ?tC_x_InvalidTarget ?hC_x_InvalidTarget ?bg_x_InvalidTarget ?br_x_InvalidTarget ?bi_x_InvalidTarget ?ca_x_InvalidTarget ?cn_x_InvalidTarget ?ck_x_InvalidTarget ?cm_x_InvalidTarget ?i1_x_InvalidTarget ?i2_x_InvalidTarget ?i3_x_InvalidTarget ?i4_x_InvalidTarget ?i5_x_InvalidTarget ?i6_x_InvalidTarget; (case nC_x_InvalidTarget => first | k_is | rfl); (case nB_x_InvalidTarget => first | k_is | rfl); (case xL_x_InvalidTarget => first | k_is | rfl); (case hbm_x_InvalidTarget => decide +kernel); (case sa_x_InvalidTarget => first | k_is | rfl); (case ga_x_InvalidTarget => first | k_is | rfl); (case gg_x_InvalidTarget => first | k_is | rfl); (case nb_x_InvalidTarget => first | k_is | rfl); (case a1_x_InvalidTarget => first | k_is | rfl); (case t1_x_InvalidTarget => first | k_is | rfl); (case l1_x_InvalidTarget => first | k_is | rfl); (case c1_x_InvalidTarget => first | k_is | rfl); (case kI_x_InvalidTarget => first | k_is | rfl); (case kC_x_InvalidTarget => first | k_is | rfl); (case eC_x_InvalidTarget => first | k_is | rfl); (case tC_x_InvalidTarget => first | k_is | rfl); (case hC_x_InvalidTarget => first | k_is | rfl); (case bg_x_InvalidTarget => first | k_is | rfl); (case br_x_InvalidTarget => first | k_is | rfl); (case bi_x_InvalidTarget => first | k_is | rfl); (case ca_x_InvalidTarget => first | k_is | rfl); (case cn_x_InvalidTarget => first | k_is | rfl); (case ck_x_InvalidTarget => first | k_is | rfl); (case cm_x_InvalidTarget => first | k_is | rfl); (case i1_x_InvalidTarget => first | k_is | rfl); (case i2_x_InvalidTarget => first | k_is | rfl); (case i3_x_InvalidTarget => first | k_is | rfl); (case i4_x_InvalidTarget => first | k_is | rfl); (case i5_x_InvalidTarget => first | k_is | rfl); (case i6_x_InvalidTarget => first | k_is | rfl)))
      (case n_min => (refine' wd.no ?zn_min; (case zn_min => k_is)))
      (case n_tuple => (refine' wd.no ?zn_tuple; (case zn_tuple => k_is)))
      (case t_law_box => (refine' DL.tx_mk ?a_t_law_box ?l_t_law_box ?c_t_law_box ?k_t_law_box; (case a_t_law_box => k_is); (case l_t_law_box => k_is); (case c_t_law_box => k_is); (case k_t_law_box => k_is)))
      (case t_law_cell => (refine' DL.tx_mk ?a_t_law_cell ?l_t_law_cell ?c_t_law_cell ?k_t_law_cell; (case a_t_law_cell => k_is); (case l_t_law_cell => k_is); (case c_t_law_cell => k_is); (case k_t_law_cell => k_is)))
      (case t_law_take => (refine' DL.tx_mk ?a_t_law_take ?l_t_law_take ?c_t_law_take ?k_t_law_take; (case a_t_law_take => k_is); (case l_t_law_take => k_is); (case c_t_law_take => k_is); (case k_t_law_take => k_is)))
      (case t_law_counted => (refine' DL.tx_mk ?a_t_law_counted ?l_t_law_counted ?c_t_law_counted ?k_t_law_counted; (case a_t_law_counted => k_is); (case l_t_law_counted => k_is); (case c_t_law_counted => k_is); (case k_t_law_counted => k_is)))
      (case t_is_integer => (refine' DL.tx_mk ?a_t_is_integer ?l_t_is_integer ?c_t_is_integer ?k_t_is_integer; (case a_t_is_integer => k_is); (case l_t_is_integer => k_is); (case c_t_is_integer => k_is); (case k_t_is_integer => k_is)))
      (case t_is_value => (refine' DL.tx_mk ?a_t_is_value ?l_t_is_value ?c_t_is_value ?k_t_is_value; (case a_t_is_value => k_is); (case l_t_is_value => k_is); (case c_t_is_value => k_is); (case k_t_is_value => k_is)))
      (case t_is_counts => (refine' DL.tx_mk ?a_t_is_counts ?l_t_is_counts ?c_t_is_counts ?k_t_is_counts; (case a_t_is_counts => k_is); (case l_t_is_counts => k_is); (case c_t_is_counts => k_is); (case k_t_is_counts => k_is)))
      (case t_law_counts_right => (refine' DL.tx_mk ?a_t_law_counts_right ?l_t_law_counts_right ?c_t_law_counts_right ?k_t_law_counts_right; (case a_t_law_counts_right => k_is); (case l_t_law_counts_right => k_is); (case c_t_law_counts_right => k_is); (case k_t_law_counts_right => k_is)))
      (case t_law_word => (refine' DL.tx_mk ?a_t_law_word ?l_t_law_word ?c_t_law_word ?k_t_law_word; (case a_t_law_word => k_is); (case l_t_law_word => k_is); (case c_t_law_word => k_is); (case k_t_law_word => k_is)))
      (case t_is_target => (refine' DL.tx_mk ?a_t_is_target ?l_t_is_target ?c_t_is_target ?k_t_is_target; (case a_t_is_target => k_is); (case l_t_is_target => k_is); (case c_t_is_target => k_is); (case k_t_is_target => k_is)))
      (case t_law_named => (refine' DL.tx_mk ?a_t_law_named ?l_t_law_named ?c_t_law_named ?k_t_law_named; (case a_t_law_named => k_is); (case l_t_law_named => k_is); (case c_t_law_named => k_is); (case k_t_law_named => k_is)))
      (case t_law_names_right => (refine' DL.tx_mk ?a_t_law_names_right ?l_t_law_names_right ?c_t_law_names_right ?k_t_law_names_right; (case a_t_law_names_right => k_is); (case l_t_law_names_right => k_is); (case c_t_law_names_right => k_is); (case k_t_law_names_right => k_is)))
      (case t_law_integers_right => (refine' DL.tx_mk ?a_t_law_integers_right ?l_t_law_integers_right ?c_t_law_integers_right ?k_t_law_integers_right; (case a_t_law_integers_right => k_is); (case l_t_law_integers_right => k_is); (case c_t_law_integers_right => k_is); (case k_t_law_integers_right => k_is)))
      (case t_is_list => (refine' DL.tx_mk ?a_t_is_list ?l_t_is_list ?c_t_is_list ?k_t_is_list; (case a_t_is_list => k_is); (case l_t_is_list => k_is); (case c_t_is_list => k_is); (case k_t_is_list => k_is)))
      (case t_law_values_right => (refine' DL.tx_mk ?a_t_law_values_right ?l_t_law_values_right ?c_t_law_values_right ?k_t_law_values_right; (case a_t_law_values_right => k_is); (case l_t_law_values_right => k_is); (case c_t_law_values_right => k_is); (case k_t_law_values_right => k_is)))
      (case t_law => (refine' DL.tx_mk ?a_t_law ?l_t_law ?c_t_law ?k_t_law; (case a_t_law => k_is); (case l_t_law => k_is); (case c_t_law => k_is); (case k_t_law => k_is)))
