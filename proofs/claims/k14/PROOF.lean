import PyProof.Rows.All
import Wide.All
import OpenK.AllK
import Wide.FinOn
import HandS.ForMost
import HandS.WideBits
import HandS.EndBits
import HandS.Defaults
import HandS.MakeKw
import HandS.Property
import HandS.IsInst
import HandS.Codes
import HandS.Flow
import HandS.RaiseMore
import HandS.Head0
import HandS.Head1
import HandS.Head2
import HandS.HeadEnd
import HandS.HeadHook1
import HandS.HeadHook2
import HandS.Walk
import HandS.Style
import KE.GoesMore
import KE.GoesEnum
import KE.KOpsOwn
import HandS.OwnEq
import HandS.Conv
import PyProof.InstNe
import PySem.Challenge.RW_everysettles_k14_whole_rows_in_order
set_option Elab.async false
set_option linter.all false
set_option maxRecDepth 100000
set_option maxHeartbeats 4000000
namespace Eb
open PySem PySem.Spec PyProof.Rows L2

/-! ## a def's promise where nothing is being shown (no repr runs around) -/
structure FnG (P : Program) (w : World) (K : PySem.W.Frag) (mg : Str → Option Value) (base : Heap) (k : Nat) (f : Addr) (fd : FuncData) (ps : List Str) (sp : Sp) : Prop where
  len : ∀ vs H Q E, sp vs H Q E → vs.length = ps.length
  run : ∀ (A : Around) (outer : List Env) (s : Shared) (H : Hp) (args : Args) (us : List Value) (vs : List V) (Q : VK) (E : XK),
    A.guards = some [] → Room k A → Env0 P w K mg base A outer s H → BindsTo s fd args (ps.zip us) → Vals vs us → sp vs H Q E →
      codeAny (model P w) A (.call (.ref f) args) (CR CX0 outer P w H s Q E) s
section
variable {P : Program} {w : World} {K : PySem.W.Frag} {mg : Str → Option Value} {base : Heap} {k : Nat} {f : Addr} {fd : FuncData} {ps : List Str} {sp : Sp}
theorem FnG.of (F : FnOk P w K mg base CX0 k f fd ps sp) : FnG P w K mg base k f fd ps sp :=
  ⟨F.len, fun A o s H a us vs Q E _ => F.run A o s H a us vs Q E⟩
/-- by the body -/
theorem okG {x qual : Str} {params : Arguments} {body : List Stmt} {scope : Scope} {dvs : List V} {kws : List (Str × V)} {N : List Str}
    (F : FunD K x qual params body scope dvs kws f fd) (S : FnScope N ps scope) (len : ∀ vs H Q E, sp vs H Q E → vs.length = ps.length)
    (hb : ∀ (cdv : Value) (A : Around) (outer : List Env) (s : Shared) (H : Hp) (vs : List V) (Q : VK) (E : XK),
      (A.deeper (envOfC qual scope s.heap.objs.size f cdv)).guards = some [] → Room k (A.deeper (envOfC qual scope s.heap.objs.size f cdv)) → sp vs H Q E →
      ∃ t, PSs (cxOf CX0 P w K mg base N qual scope f cdv A outer s H E).nox body t ∧ t { nx := fun _ H' => Q .non H', rt := Q } (start N vs) H) :
    FnG P w K mg base (k + 1) f fd ps sp := by
  refine ⟨len, fun A outer s H args us vs Q E hg hr e0 hbd r hsp => ?_⟩
  obtain ⟨oc, od, dV, kV, doc, pm, an, cdv, ct, osl, rfl, lk, hcd, _, _⟩ := F.ex
  have hl := len _ _ _ _ hsp
  have KX : K.In s.heap := e0.mod.kin.keeps fun b o e => (e0.bs b o e).1
  have lim : s.heap.NoLimit := e0.mod.nolimit.keeps fun b o e => (e0.bs b o e).1
  refine codeAny_call_function hr.depth (KX _ _ lk) rfl S.co S.gen rfl (PySem.W.codeRec_of KX hcd) (hbd _ _ _ _ ?_)
  refine wpAny_newFunctionEnv_cells S.kind (fun q hq => ?_) fun env he s1 x => ?_
  · obtain ⟨n, v⟩ := q
    rcases S.par n (List.of_mem_zip hq).1 with z | z
    · exact .inl z
    · exact .inr ⟨z, PySem.W.cellsFrom_some _ _ _ (.inl z)⟩
  · subst he
    refine ⟨lim.keeps x.toInCall.keep, codeAny_func ?_⟩
    obtain ⟨t, ht, hq⟩ := hb cdv A outer s H vs Q E hg (hr.deeper _) hsp
    have I : Inv (cxOf CX0 P w K mg base N qual scope f cdv A outer s H E) [] (start N vs) H s1 := inv_start S hr.hd e0 hl r x
    refine wpAny_mono (ht.nox.run [] s1 (start N vs) H _ I hq) (fun fl s' hs => ?_) fun e s' hs => hs
    cases fl with
    | ret u => obtain ⟨v, σ', H', J, rv, q⟩ := hs; exact ⟨v, H', J.os, J.bare, J.base, J.hok, rv, q⟩
    | next => obtain ⟨σ', H', J, q⟩ := hs; exact ⟨V.non, H', J.os, J.bare, J.base, J.hok, rfl, q⟩
    | brk => obtain ⟨_, _, _, q⟩ := hs; exact False.elim q
    | cont => obtain ⟨_, _, _, q⟩ := hs; exact False.elim q
end
section
variable {X : Cx} {k : Nat} {f : Addr} {fd : FuncData} {ps : List Str} {sp : Sp} {dvs : List V} {ds : List Value} {x : Str} {p pos : Pos} {e : Expr} {es : List Expr} {t : TA}
theorem runG {pins : List (Addr × Obj)} {σ : L2.St} {H : Hp} {s : Shared} {Q : VK} {us : List Value} {vs : List V} (F : FnG X.prog X.w X.K X.mg X.base k f fd ps sp) (g : X.A.guards = some []) (hr : Room k X.A) (hb : Binds X.K fd ps ds) (hd : Vals dvs ds)
    (I : Inv X pins σ H s) (r : Vals vs us) (h : sp (vs ++ dvs) H Q E0) : wpAny (model X.prog X.w) X.A (call (.ref f) us) (EP X pins σ Q) X.xe s := by
  have r2 : Vals (vs ++ dvs) (us ++ ds) := r.append hd
  have hl : (us ++ ds).length = ps.length := r2.length ▸ F.len _ _ _ _ h
  refine wpAny_call (codeAny_mono (F.run X.A X.stack s H ⟨us, []⟩ (us ++ ds) (vs ++ dvs) Q E0 g hr I.env0 (hb s us I.kIn hl) r2 h) fun r s' hq => ?_)
  cases r with
  | error e => exact False.elim hq
  | ok fl => cases fl <;> first | exact I.after hq | exact False.elim hq
/-- f(..) by its promise, nothing being shown -/
theorem pe_callG (F : FnG X.prog X.w X.K X.mg X.base k f fd ps sp) (g : X.A.guards = some []) (hr : Room k X.A) (hg : Gl X x) (hm : X.mg x = some (.ref f)) (hk : PySem.W.keepIn X.K (.ref f) = true) (hb : Binds X.K fd ps ds) (hd : Vals dvs ds)
    (ha : PA X (e :: es) t) (hdb : (x == ("__debug__" : Str)) = false := by decide) (he : starEach (e :: es) X.env = (false, eval e X.env) :: starEach es X.env := by rfl) (hpl : (backTo pos (starEach es X.env)).any (·.1) = false := by rfl) :
    PE X (.Call (.Name x p) (e :: es) [] pos) (tCall sp dvs E0 t) := by
  refine ⟨fun pins s σ H Q I h => wpAny_Call_Name_kw (ld_glob I hg hm ?_ hdb)⟩
  exact PySem.W.callWith_K (h₀ := X.base) I.ok.mod.kin hk (thn (ha.run pos pins s σ H _ I h) fun us s1 ⟨vs, H1, I1, r, q⟩ => ⟨I1.kIn, runG F g hr hb hd I1 r q⟩) he hpl
/-- f() likewise -/
theorem pe_callG0 (F : FnG X.prog X.w X.K X.mg X.base k f fd ps sp) (g : X.A.guards = some []) (hr : Room k X.A) (hg : Gl X x) (hm : X.mg x = some (.ref f)) (hk : PySem.W.keepIn X.K (.ref f) = true) (hb : Binds X.K fd ps ds) (hd : Vals dvs ds)
    (hdb : (x == ("__debug__" : Str)) = false := by decide) : PE X (.Call (.Name x p) [] [] pos) (tCall sp dvs E0 tNil) :=
  ⟨fun pins s σ H Q I h => wpAny_Call_Name_kw (ld_glob I hg hm (PySem.W.callWith_K0 I.kIn hk (runG (us := []) F g hr hb hd I .nil h)) hdb)⟩
end
end Eb
set_option maxHeartbeats 4000000
namespace Eb
open PySem PySem.Spec PyProof.Rows L2

/-! ## plain data on the heap: the addresses in R are not among its own -/
mutual
def Dat (R : List Addr) (H : Hp) : PyData → V → Prop
  | .none, v => v = .non
  | .bool b, v => v = .bl b
  | .int i, v => v = .int i
  | .str x, v => v = .str x
  | .list xs, v => ∃ a vs, v = .ref a ∧ a ∉ R ∧ H a = some (.lst vs) ∧ Dats R H xs vs
  | .tuple xs, v => ∃ a vs, v = .ref a ∧ a ∉ R ∧ H a = some (.tup vs) ∧ Dats R H xs vs
  | .dict _, _ => False
def Dats (R : List Addr) (H : Hp) : List PyData → List V → Prop
  | [], vs => vs = []
  | d :: ds, vs => ∃ v r, vs = v :: r ∧ Dat R H d v ∧ Dats R H ds r
end
/-- all that stands outside R stays -/
def Ext (R : List Addr) (H H' : Hp) : Prop := ∀ a o, a ∉ R → H a = some o → H' a = some o
theorem Ext.refl {R : List Addr} (H : Hp) : Ext R H H := fun _ _ _ h => h
theorem Ext.trans {R : List Addr} {H H1 H2 : Hp} (a : Ext R H H1) (b : Ext R H1 H2) : Ext R H H2 := fun c o n h => b c o n (a c o n h)
theorem Ext.new {R : List Addr} {H : Hp} {p : Addr} {o : HO} (h : H p = none) : Ext R H (upd H p o) := fun a u _ e => by
  rw [upd_ne (ne_of_none e h)]; exact e
theorem Ext.put {R : List Addr} {H : Hp} {p : Addr} {o : HO} (h : p ∈ R) : Ext R H (upd H p o) := fun a u n e => by
  have ne : a ≠ p := fun z => n (by rw [z]; exact h)
  rw [upd_ne ne]; exact e
theorem Ext.mut {R : List Addr} {H H' : Hp} {p : Addr} {o : HO} (e : Ext R H H') (h : H p = none) : Ext R H (upd H' p o) := fun a u n q => by
  have ne : a ≠ p := ne_of_none q h
  rw [upd_ne ne]; exact e a u n q
theorem Ext.back {R : List Addr} {H H' : Hp} {p : Addr} (e : Ext R H H') (n : p ∉ R) (h : H' p = none) : H p = none := by
  cases q : H p with
  | none => rfl
  | some o => rw [e p o n q] at h; cases h
theorem Ext.free {H H' : Hp} {p : Addr} (e : Ext [] H H') (h : H' p = none) : H p = none := e.back (by simp) h
theorem Ext.made {R : List Addr} {H H' : Hp} {x dx : Addr} {o1 o2 : HO} (nx : H x = none) (nd : H dx = none) (e : Ext [x] (upd (upd H dx o1) x o2) H') : Ext R H H' := fun a u _ q => by
  have n1 : a ≠ x := ne_of_none q nx
  have n2 : a ≠ dx := ne_of_none q nd
  exact e a u (by simpa using n1) (by rw [upd_ne n1, upd_ne n2]; exact q)
theorem Ext.sub {R S : List Addr} {H H' : Hp} (e : Ext R H H') (h : ∀ a, a ∈ R → a ∈ S) : Ext S H H' := fun a o n q => e a o (fun z => n (h a z)) q
theorem Ext.of {R : List Addr} {H H' : Hp} (e : Same H H') : Ext R H H' := fun a o _ q => e a o q
theorem Ext.same {H H' : Hp} (e : Ext [] H H') : Same H H' := fun a o q => e a o (by simp) q

mutual
theorem Dat.ext {R : List Addr} {H H' : Hp} (e : Ext R H H') : ∀ {d : PyData} {v : V}, Dat R H d v → Dat R H' d v
  | .none, v, h => h
  | .bool b, v, h => h
  | .int i, v, h => h
  | .str x, v, h => h
  | .list xs, v, h => by
    unfold Dat at h ⊢
    obtain ⟨a, vs, h1, h2, h3, h4⟩ := h
    exact ⟨a, vs, h1, h2, e a _ h2 h3, Dats.ext e h4⟩
  | .tuple xs, v, h => by
    unfold Dat at h ⊢
    obtain ⟨a, vs, h1, h2, h3, h4⟩ := h
    exact ⟨a, vs, h1, h2, e a _ h2 h3, Dats.ext e h4⟩
  | .dict kvs, v, h => h
theorem Dats.ext {R : List Addr} {H H' : Hp} (e : Ext R H H') : ∀ {ds : List PyData} {vs : List V}, Dats R H ds vs → Dats R H' ds vs
  | [], vs, h => h
  | d :: ds, vs, h => by
    unfold Dats at h ⊢
    obtain ⟨v, r, h1, h2, h3⟩ := h
    exact ⟨v, r, h1, Dat.ext e h2, Dats.ext e h3⟩
end
mutual
theorem Dat.keep {R S : List Addr} {H : Hp} (n : ∀ a, a ∈ S → a ∈ R ∨ H a = none ∨ ∃ C dx fs, H a = some (.ins C dx fs)) : ∀ {d : PyData} {v : V}, Dat R H d v → Dat S H d v
  | .none, v, h => h
  | .bool b, v, h => h
  | .int i, v, h => h
  | .str x, v, h => h
  | .list xs, v, h => by
    unfold Dat at h ⊢
    obtain ⟨a, vs, h1, h2, h3, h4⟩ := h
    refine ⟨a, vs, h1, fun z => ?_, h3, Dats.keep n h4⟩
    rcases n a z with q | q | ⟨_, _, _, q⟩
    · exact h2 q
    · rw [q] at h3; cases h3
    · rw [q] at h3; cases h3
  | .tuple xs, v, h => by
    unfold Dat at h ⊢
    obtain ⟨a, vs, h1, h2, h3, h4⟩ := h
    refine ⟨a, vs, h1, fun z => ?_, h3, Dats.keep n h4⟩
    rcases n a z with q | q | ⟨_, _, _, q⟩
    · exact h2 q
    · rw [q] at h3; cases h3
    · rw [q] at h3; cases h3
  | .dict kvs, v, h => h
theorem Dats.keep {R S : List Addr} {H : Hp} (n : ∀ a, a ∈ S → a ∈ R ∨ H a = none ∨ ∃ C dx fs, H a = some (.ins C dx fs)) : ∀ {ds : List PyData} {vs : List V}, Dats R H ds vs → Dats S H ds vs
  | [], vs, h => h
  | d :: ds, vs, h => by
    unfold Dats at h ⊢
    obtain ⟨v, r, h1, h2, h3⟩ := h
    exact ⟨v, r, h1, Dat.keep n h2, Dats.keep n h3⟩
end
theorem Dat.sub {R S : List Addr} {H : Hp} (n : ∀ a, a ∈ S → a ∈ R) {d : PyData} {v : V} (h : Dat R H d v) : Dat S H d v := Dat.keep (fun a z => .inl (n a z)) h
theorem Dats.sub {R S : List Addr} {H : Hp} (n : ∀ a, a ∈ S → a ∈ R) {d : List PyData} {v : List V} (h : Dats R H d v) : Dats S H d v := Dats.keep (fun a z => .inl (n a z)) h
theorem dat_str {R : List Addr} {H : Hp} {x : Str} {v : V} : Dat R H (.str x) v ↔ v = .str x := by simp only [Dat]
theorem dat_int {R : List Addr} {H : Hp} {x : Int} {v : V} : Dat R H (.int x) v ↔ v = .int x := by simp only [Dat]
theorem dat_bool {R : List Addr} {H : Hp} {x : Bool} {v : V} : Dat R H (.bool x) v ↔ v = .bl x := by simp only [Dat]
theorem dat_none {R : List Addr} {H : Hp} {v : V} : Dat R H .none v ↔ v = .non := by simp only [Dat]
theorem dat_list {R : List Addr} {H : Hp} {xs : List PyData} {v : V} : Dat R H (.list xs) v ↔ ∃ a vs, v = .ref a ∧ a ∉ R ∧ H a = some (.lst vs) ∧ Dats R H xs vs := by simp only [Dat]
theorem dat_tup {R : List Addr} {H : Hp} {xs : List PyData} {v : V} : Dat R H (.tuple xs) v ↔ ∃ a vs, v = .ref a ∧ a ∉ R ∧ H a = some (.tup vs) ∧ Dats R H xs vs := by simp only [Dat]
theorem dats_nil {R : List Addr} {H : Hp} {vs : List V} : Dats R H [] vs ↔ vs = [] := by simp only [Dats]
theorem dats_cons {R : List Addr} {H : Hp} {d : PyData} {ds : List PyData} {vs : List V} : Dats R H (d :: ds) vs ↔ ∃ v r, vs = v :: r ∧ Dat R H d v ∧ Dats R H ds r := by simp only [Dats]
theorem Dats.length {R : List Addr} {H : Hp} : ∀ {ds : List PyData} {vs : List V}, Dats R H ds vs → vs.length = ds.length
  | [], vs, h => by rw [dats_nil.mp h]; rfl
  | d :: ds, vs, h => by
    obtain ⟨v, r, rfl, _, h2⟩ := dats_cons.mp h
    show r.length + 1 = ds.length + 1
    rw [h2.length]
theorem Dats.get {R : List Addr} {H : Hp} : ∀ {ds : List PyData} {vs : List V} {i : Nat} {d : PyData}, Dats R H ds vs → ds[i]? = some d → ∃ v, vs[i]? = some v ∧ Dat R H d v
  | [], vs, i, d, h, e => by simp at e
  | d :: ds, vs, 0, d', h, e => by
    obtain ⟨v, r, rfl, h1, _⟩ := dats_cons.mp h
    cases (show d = d' from by simpa using e)
    exact ⟨v, rfl, h1⟩
  | d :: ds, vs, i + 1, d', h, e => by
    obtain ⟨v, r, rfl, _, h2⟩ := dats_cons.mp h
    obtain ⟨u, e1, e2⟩ := Dats.get (i := i) h2 (by simpa using e)
    exact ⟨u, by simpa using e1, e2⟩
theorem Dats.strs {R : List Addr} {H : Hp} : ∀ {xs : List Str} {vs : List V}, Dats R H (xs.map PyData.str) vs ↔ vs = xs.map V.str
  | [], vs => by show Dats R H [] vs ↔ vs = []; exact dats_nil
  | x :: xs, vs => by
    show Dats R H (PyData.str x :: xs.map PyData.str) vs ↔ vs = V.str x :: xs.map V.str
    rw [dats_cons]
    constructor
    · rintro ⟨v, r, rfl, h1, h2⟩
      rw [dat_str.mp h1, Dats.strs.mp h2]
    · rintro rfl
      exact ⟨_, _, rfl, dat_str.mpr rfl, Dats.strs.mpr rfl⟩
theorem Dats.bools {R : List Addr} {H : Hp} : ∀ {xs : List Bool} {vs : List V}, Dats R H (xs.map PyData.bool) vs ↔ vs = xs.map V.bl
  | [], vs => by show Dats R H [] vs ↔ vs = []; exact dats_nil
  | x :: xs, vs => by
    show Dats R H (PyData.bool x :: xs.map PyData.bool) vs ↔ vs = V.bl x :: xs.map V.bl
    rw [dats_cons]
    constructor
    · rintro ⟨v, r, rfl, h1, h2⟩
      rw [dat_bool.mp h1, Dats.bools.mp h2]
    · rintro rfl
      exact ⟨_, _, rfl, dat_bool.mpr rfl, Dats.bools.mpr rfl⟩

/-! ## repr of plain data -/
mutual
theorem reads_of {P : Program} {w : World} {R : List Addr} {H : Hp} {h : Heap} (ok : HOk P w H h) : ∀ {d : PyData} {v : V} {u : Value}, Dat R H d v → RelV v u → ∃ as, Reads h u d as
  | .none, v, u, hd, r => by cases dat_none.mp hd; cases (show u = Value.none from r); exact ⟨_, .none⟩
  | .bool b, v, u, hd, r => by cases dat_bool.mp hd; cases (show u = Value.bool b from r); exact ⟨_, .bool b⟩
  | .int i, v, u, hd, r => by cases dat_int.mp hd; obtain ⟨t, rfl⟩ := r; exact ⟨_, .int i t⟩
  | .str x, v, u, hd, r => by cases dat_str.mp hd; obtain ⟨t, rfl⟩ := r; exact ⟨_, .str x t⟩
  | .list xs, v, u, hd, r => by
    obtain ⟨a, vs, rfl, _, ha, h4⟩ := dat_list.mp hd
    cases (show u = Value.ref a from r)
    obtain ⟨_, its, n, rv, e⟩ := (show ObjOk P w H h a (.lst vs) from ok a _ ha)
    obtain ⟨as, q⟩ := readsAll_of ok h4 rv
    exact ⟨_, .list e rfl rfl (by simpa using q)⟩
  | .tuple xs, v, u, hd, r => by
    obtain ⟨a, vs, rfl, _, ha, h4⟩ := dat_tup.mp hd
    cases (show u = Value.ref a from r)
    obtain ⟨_, its, rv, o, e, hc, n, hdt⟩ := (show ObjOk P w H h a (.tup vs) from ok a _ ha)
    obtain ⟨as, q⟩ := readsAll_of ok h4 rv
    exact ⟨_, .tuple e hc hdt (by simpa using q)⟩
  | .dict kvs, v, u, hd, r => by unfold Dat at hd; exact hd.elim
theorem readsAll_of {P : Program} {w : World} {R : List Addr} {H : Hp} {h : Heap} (ok : HOk P w H h) : ∀ {ds : List PyData} {vs : List V} {us : List Value}, Dats R H ds vs → Vals vs us → ∃ as, ReadsAll h us ds as
  | [], vs, us, hd, r => by
    cases dats_nil.mp hd
    cases r
    exact ⟨_, .nil⟩
  | d :: ds, vs, us, hd, r => by
    obtain ⟨v, r', rfl, h1, h2⟩ := dats_cons.mp hd
    cases r with
    | cons r1 r2 =>
      obtain ⟨as, q1⟩ := reads_of ok h1 r1
      obtain ⟨bs, q2⟩ := readsAll_of ok h2 r2
      exact ⟨_, .cons q1 q2⟩
end
/-- data that may be shown -/
structure Showy (d : PyData) : Prop where
  sh : d.showable = true
  nd : d.hasDict = false
  sz : d.shown.length ≤ sizeLine
  dp : d.depth ≤ 100
def rRepr : List V → Hp → VK → Prop := fun xs H Q => ∃ (a : Addr) (R : List Addr) (d : PyData), xs = [.ref a] ∧ Dat R H d (.ref a) ∧ Showy d ∧ Q (.str d.shown) H
theorem call_reprD {X : Cx} {k : Nat} (g : X.A.guards = some []) (hr : Room k X.A) : CallR X (.builtin "repr") rRepr := by
  intro pins s σ H xs us Q I r h
  obtain ⟨a, R, d, rfl, hd, S, q⟩ := h
  obtain ⟨u, rfl, e⟩ := vals1 r
  cases (show u = Value.ref a from e)
  obtain ⟨as, rd⟩ := reads_of I.hok hd (u := .ref a) rfl
  have un := hr.un
  refine repr_of_reads' rd S.sh (fun z => by rw [S.nd] at z; cases z) g (by have := S.dp; omega) (fun _ _ e => e) (fun h' t tk hk => ?_) S.sz
  exact ⟨.str d.shown, H, I.kept hk, ⟨t, rfl⟩, q⟩
end Eb
set_option maxHeartbeats 4000000
namespace Eb
open PySem PySem.Spec PyProof.Rows L2

/-! ## the law's end, nothing being shown ahead of it -/
/-- the law's call at an abstract heap H that tracks the script alone, or nothing -/
theorem endG {P : Program} {w : World} {K : PySem.W.Frag} {mg mb : Str → Option Value} {k : Nat} {fa a : Addr} {fd : FuncData} {x : Str} {sp : Sp} {s₁ : Shared} {vs : List Value} (H : Hp)
    (KX : K.In s₁.heap) (hns : s₁.heap.Ns mainGlobals mg) (hb : s₁.heap.Ns builtinsNs mb) (hbb : ∀ x : Str, x ≠ "__name__" → mb x = bootBuiltins x) (hlim : s₁.heap.NoLimit) (hg : s₁.gens = #[])
    (ha : s₁.heap.get? a = some { cls := .type "list", data := .seq vs.toArray }) (hr : Room k callerA) (F : ∀ base : Heap, FnG P w K mg base k fa fd [x] sp) (bd : ∀ (s : Shared) (u : Value), BindsTo s fd ⟨[u], []⟩ [(x, u)])
    (hsp : sp [.ref a] H (fun v _ => v = .bl true) fun _ _ _ => False) (hO : Only H) (hok : HOk P w H s₁.heap) (hA : ∀ b, H b ≠ none → b = a) (hK : H a ≠ none → K.lookup a = none) :
    codeAny (model P w) callerA (.call (.ref fa) ⟨[.ref a], []⟩) (fun r s' => r = .ok (.ret (.bool true)) ∧ OldK s₁.heap s'.heap ∧ s'.os = s₁.os ∧ AllBare s'.gens) s₁ := by
  have untr : ∀ {b : Addr}, b ≠ a → H b = none := fun {b} n => Classical.byContradiction fun z => n (hA b z)
  have dk : ∀ {b : Addr} {o : Obj} {es : Array DictEntry} {ep : Nat}, s₁.heap.get? b = some o → o.data = .dict es ep → (hidT s₁.heap H).get? b = some o := fun {b o es ep} e d => by
    refine hidT_get e (untr fun z => ?_)
    rw [z, ha] at e
    cases e
    cases (show Data.seq vs.toArray _ = Data.dict es ep from d)
  have nk : ∀ {b : Addr} {m : Str → Option Value}, s₁.heap.Ns b m → (hidT s₁.heap H).Ns b m := fun {b m} ⟨o, es, ep, e, d, r⟩ => ⟨o, es, ep, dk e d, d, r⟩
  have kb : K.In (hidT s₁.heap H) := fun b o e => hidT_get (KX b o e) (Classical.byContradiction fun z => by
    have q := hA b z
    rw [q] at e z
    rw [hK z] at e
    cases e)
  have mo : Mod K mg (hidT s₁.heap H) := ⟨kb, nk hns, ⟨mb, nk hb, hbb⟩, let ⟨mc, h1, h2⟩ := hlim; ⟨mc, nk h1, h2⟩⟩
  have e0 : Env0 P w K mg (hidT s₁.heap H) callerA [] s₁ H := ⟨rfl, mo, fun b o e => of_hidT e, Nat.le_of_eq (hidT_size _ _), trivial, fun b z => (List.not_mem_nil (show b ∈ ([] : List Addr) from z)).elim, hok, .of_eq hg⟩
  refine codeAny_mono ((F _).run callerA [] s₁ H ⟨[.ref a], []⟩ [.ref a] [.ref a] _ _ rfl hr e0 (bd s₁ (.ref a)) (.cons rfl .nil) hsp) fun r s' h => ?_
  cases r with
  | error e => exact False.elim h
  | ok fl =>
    cases fl with
    | ret u =>
      obtain ⟨v, H', os, bare, un, hok', r', q⟩ := h
      cases (show v = .bl true from q)
      cases (show u = Value.bool true from r')
      refine ⟨rfl, OldK.of_keep fun b o e => ?_, os, bare⟩
      rcases hO b with z | ⟨ob, xs, z⟩
      · exact un.keep b o e z (fun m => List.not_mem_nil (show b ∈ ([] : List Addr) from m)) (fun m => List.not_mem_nil m)
      · obtain ⟨e1, _⟩ := hok b _ z
        obtain ⟨e2, _⟩ := hok' b _ (un.frzs b ob _ z)
        rw [e] at e1
        cases e1
        exact e2
    | _ => exact False.elim h
/-- what the law's def must promise; the script's bits are told -/
theorem walkG {l : PySem.W.OpenLaw} {n k : Nat} {q : Program} {loose : List Str} {XP : (Str → Option Value) → Heap → Prop} {YP : World → Heap → Prop} {d : DefRec} {x : Str}
    (hn : l.most = some n) (hn2 : n ≤ sizeLine) (hdf : d.params.defaults = []) (hr : Room k callerA)
    (F : ∀ (w : World) (mg : Str → Option Value) (fa : Addr) (h : Heap), YP w h → h.Ns mainGlobals mg → mg d.name = some (.ref fa) →
      ∃ (K : PySem.W.Frag) (fd : FuncData) (sp : Sp), K.In h ∧ (∀ (s : Shared) (u : Value), BindsTo s fd ⟨[u], []⟩ [(x, u)]) ∧
        (∀ (H : Hp) (a : Addr) (ns : List Int), ns.length ≤ n → (∀ z ∈ ns, Builtin.Int.intBits z ≤ 1048576) → Only H → SqL K H a (ns.map V.int) → sp [.ref a] H (fun v _ => v = .bl true) fun _ _ _ => False) ∧
        ∀ base : Heap, FnG l.prog w K mg base k fa fd [x] sp) :
    PySem.W.WalkO q loose XP YP l.row.toRowW d [] (fun f vs => PySem.call f vs) := by
  refine Att.attach_callB hn hdf fun w s₀ s₁ mg mb fa o pm cd doc a vs ns G Y ho hd hcd hmg hobj hints hlen hbits hg => ?_
  obtain ⟨K, fd, sp, KX, bd, hsp, hF⟩ := F w mg fa _ Y G.T.g hmg
  have rv := vals_ints hints
  have lv := hints.length
  have lz : ns.length ≤ sizeLine := Nat.le_trans hlen hn2
  cases hk : K.lookup a with
  | some ob =>
    have e := KX a ob hk
    rw [hobj] at e
    cases e
    refine endG (fun _ => none) KX G.T.g G.T.b G.T.builtins G.T.nolimit hg hobj hr hF bd (hsp _ a ns hlen hbits (fun _ => .inl rfl) (.inr ⟨_, vs.toArray, _, hk, rfl, rfl, rfl, ?_, ?_⟩)) (fun _ => .inl rfl) (fun b u z => nomatch z) (fun b z => absurd rfl z) (fun z => absurd rfl z)
    · rw [List.size_toArray, lv]; exact lz
    · simpa using rv
  | none =>
    have at_a : ∀ b, (if b = a then some (HO.frz { cls := .type "list", data := .seq vs.toArray } (.lst (ns.map V.int))) else none) ≠ none → b = a := fun b z => Classical.byContradiction fun c => z (if_neg c)
    have on : Only (fun b => if b = a then some (HO.frz { cls := .type "list", data := .seq vs.toArray } (.lst (ns.map V.int))) else none) := fun b => by
      by_cases c : b = a
      · exact .inr ⟨_, _, if_pos c⟩
      · exact .inl (if_neg c)
    refine endG _ KX G.T.g G.T.b G.T.builtins G.T.nolimit hg hobj hr hF bd (hsp _ a ns hlen hbits on (.inl (.inr ⟨_, if_pos rfl⟩))) on (fun b u z => ?_) at_a (fun _ => hk)
    by_cases c : b = a
    · cases (if_pos c).symm.trans z
      subst c
      exact ⟨hobj, by rw [List.length_map]; exact lz, vs, _, rv, hobj⟩
    · cases (if_neg c).symm.trans z

/-! ## a def that may be called by its name -/
structure CalG (P : Program) (w : World) (K : PySem.W.Frag) (mg : Str → Option Value) (base : Heap) (k : Nat) (x : Str) (sp : Sp) : Prop where
  ex : ∃ (f : Addr) (fd : FuncData) (ps : List Str), FnG P w K mg base k f fd ps sp ∧ mg x = some (.ref f) ∧ PySem.W.keepIn K (.ref f) = true ∧ Binds K fd ps []
section
variable {X : Cx} {k j : Nat} {x : Str} {sp : Sp} {p pos : Pos} {e : Expr} {es : List Expr} {t : TA}
theorem pe_g (c : CalG X.prog X.w X.K X.mg X.base k x sp) (g : X.A.guards = some []) (hr : Room j X.A) (hk : k ≤ j) (hg : Gl X x) (ha : PA X (e :: es) t)
    (hdb : (x == ("__debug__" : Str)) = false := by decide) (he : starEach (e :: es) X.env = (false, eval e X.env) :: starEach es X.env := by rfl) (hpl : (backTo pos (starEach es X.env)).any (·.1) = false := by rfl) :
    PE X (.Call (.Name x p) (e :: es) [] pos) (tCall sp [] E0 t) := by
  obtain ⟨f, fd, ps, F, hm, kp, b⟩ := c.ex
  exact pe_callG F g (hr.mono hk) hg hm kp b .nil ha hdb he hpl
theorem pe_g0 (c : CalG X.prog X.w X.K X.mg X.base k x sp) (g : X.A.guards = some []) (hr : Room j X.A) (hk : k ≤ j) (hg : Gl X x)
    (hdb : (x == ("__debug__" : Str)) = false := by decide) : PE X (.Call (.Name x p) [] [] pos) (tCall sp [] E0 tNil) := by
  obtain ⟨f, fd, ps, F, hm, kp, b⟩ := c.ex
  exact pe_callG0 F g (hr.mono hk) hg hm kp b .nil hdb
end

/-! ## what the head tells: looks at the written part, defs -/
def obsX (cs : List (PySem.W.Frag → Bool)) (fn : List He.DefD) (K : PySem.W.Frag) : He.AlD := ((cs.all fun c => c K) && fn.all fun d => d.ok K, fn.map fun d => He.fnW K d.at_)
def SaysX (cs : List (PySem.W.Frag → Bool)) (fn : List He.DefD) (K : PySem.W.Frag) : Prop := obsX cs fn K = He.valD fn
def obsXG (n : Nat) (cs : List (PySem.W.Frag → Bool)) (fn : List He.DefD) (g : Addr → Option Obj) : He.AlD := obsX cs fn (He.frG g (He.asD g n))
def hookX (n : Nat) (cs : List (PySem.W.Frag → Bool)) (fn : List He.DefD) : PySem.W.Hook where
  α := He.AlD
  obs := fun s => obsXG n cs fn s.heap.get?
  val := fun _ => He.valD fn
  says := fun _ h => ∃ K : PySem.W.Frag, K.In h ∧ SaysX cs fn K
  of := fun _ _ e => ⟨_, He.frG_in, e⟩
  keeps := fun _ _ _ ⟨K, hK, c⟩ k => ⟨K, hK.keeps k, c⟩
theorem obsXG_eq {n : Nat} {cs : List (PySem.W.Frag → Bool)} {fn : List He.DefD} {g : Addr → Option Obj} {s : Shared} (h : ∀ a, g a = s.heap.get? a) : obsXG n cs fn g = (hookX n cs fn).obs s := by
  rw [show g = s.heap.get? from funext h]; rfl
section
variable {cs : List (PySem.W.Frag → Bool)} {fn : List He.DefD} {K : PySem.W.Frag}
theorem SaysX.look (c : SaysX cs fn K) (i : Nat) {f : PySem.W.Frag → Bool} (h : cs[i]? = some f := by rfl) : f K = true := by
  have c1 : ((cs.all fun c => c K) && fn.all fun d => d.ok K) = true := congrArg (fun z : He.AlD => z.1) c
  exact List.all_eq_true.mp (He.ba c1).1 f (List.mem_of_getElem? h)
theorem SaysX.defd (c : SaysX cs fn K) (i : Nat) {d : He.DefD} (h : fn[i]? = some d := by rfl) : ∃ fd, FunD K d.name d.qual d.params d.body d.scope (d.dvs K) (d.kws K) (He.fAd K d.at_) fd := by
  have c1 : ((cs.all fun c => c K) && fn.all fun d => d.ok K) = true := congrArg (fun z : He.AlD => z.1) c
  have e : fn.map (fun d => He.fnW K d.at_) = fn.map He.DefD.val := congrArg (fun z : He.AlD => z.2) c
  have e2 := congrArg (fun l => l[i]?) e
  simp only [List.getElem?_map, h, Option.map_some] at e2
  exact He.DefD.funD (Option.some.inj e2) (List.all_eq_true.mp (He.ba c1).2 d (List.mem_of_getElem? h))
end
/-- an instance's type, as isinstance asks it -/
def insB (x : Str) (K : PySem.W.Frag) : Bool := He.eqO (PySem.W.findIn K (.ref (He.ga K x)) "__class__") (some (some (.builtin "object.__class__"))) &&
  (He.eqO (PySem.W.specialIn K (.builtin "object.__class__") "__get__") (some (some (.builtin "getset_descriptor.__get__"))) && (decide (PySem.W.takesIn K (.builtin "object.__class__") = some true) && decide (PySem.W.mroIn K (He.ga K x) (.type "object") = some true)))
def isB (t : PySem.W.Frag → Value) (c : PySem.W.Frag → Value) (b : Bool) (K : PySem.W.Frag) : Bool := decide (PySem.W.kitOne K (t K) (c K) = some b)
theorem insB_ok {K : PySem.W.Frag} {H : Hp} {x : Str} (c : Cls K (He.ga K x)) (h : insB x K = true) {a dx : Addr} {fs : List (Str × V)} (e : H a = some (.ins (He.ga K x) dx fs)) : TyX K H (.ref a) (.ref (He.ga K x)) := by
  obtain ⟨h1, h2⟩ := He.ba h
  obtain ⟨h3, h4⟩ := He.ba h2
  obtain ⟨h5, h6⟩ := He.ba h4
  exact .base (.ins e c (He.eqO_ok h1) (He.eqO_ok h3) (of_decide_eq_true h5) (of_decide_eq_true h6))
theorem isB_ok {t c : PySem.W.Frag → Value} {b : Bool} {K : PySem.W.Frag} (h : isB t c b K = true) : PySem.W.kitOne K (t K) (c K) = some b := of_decide_eq_true h
end Eb
namespace Eb
open PySem PySem.Spec PyProof.Rows L2
/-- at p an empty tuple is written -/
def tupAtB (K : PySem.W.Frag) (p : Addr) : Bool := match K.lookup p with
  | some ⟨.type c, _, .seq its _, _⟩ => decide (c = "tuple") && decide (its = #[])
  | _ => false
theorem tupAt_ok {K : PySem.W.Frag} {p : Addr} (h : tupAtB K p = true) (H : Hp) : SqT K H p [] := by
  unfold tupAtB at h
  cases q : K.lookup p with
  | none => rw [q] at h; cases h
  | some o =>
    obtain ⟨oc, od, dt, osl⟩ := o
    rw [q] at h
    cases oc with
    | type c =>
      cases dt with
      | seq its n =>
        obtain ⟨h1, h2⟩ := He.ba (show (decide (c = "tuple") && decide (its = #[])) = true from h)
        have e := of_decide_eq_true h2
        subst e
        exact .inr ⟨_, #[], n, q, congrArg Value.type (of_decide_eq_true h1), rfl, by simp, .nil⟩
      | _ => cases h
    | _ => cases dt <;> cases h
theorem tupAt_ty {K : PySem.W.Frag} {p : Addr} (h : tupAtB K p = true) (H : Hp) : TyX K H (.ref p) (.type "tuple") := by
  unfold tupAtB at h
  cases q : K.lookup p with
  | none => rw [q] at h; cases h
  | some o =>
    obtain ⟨oc, od, dt, osl⟩ := o
    rw [q] at h
    cases oc with
    | type c =>
      cases dt with
      | seq its n =>
        obtain ⟨h1, h2⟩ := He.ba (show (decide (c = "tuple") && decide (its = #[])) = true from h)
        exact .kTuple q (congrArg Value.type (of_decide_eq_true h1))
      | _ => cases h
    | _ => cases dt <;> cases h
end Eb
set_option maxHeartbeats 4000000
namespace Eb
open PySem PySem.Spec PyProof.Rows L2
theorem itT {b : Bool} {A B : Prop} (e : b = true) (h : A) : if b = true then A else B := by rw [if_pos e]; exact h
theorem itF {b : Bool} {A B : Prop} (e : b = false) (h : B) : if b = true then A else B := by rw [if_neg (by rw [e]; decide)]; exact h
theorem it2 {b : Bool} {A B : Prop} (h1 : b = true → A) (h2 : b = false → B) : if b = true then A else B := by
  cases b
  · exact itF rfl (h2 rfl)
  · exact itT rfl (h1 rfl)
theorem dT {p : Prop} [Decidable p] (h : p) : decide p = true := decide_eq_true h
theorem dF {p : Prop} [Decidable p] (h : ¬ p) : decide p = false := decide_eq_false h
theorem at_g {α : Type} {xs : List α} {z : Int} {j : Nat} {v : α} (e : z = (j : Int)) (h : xs[j]? = some v) : atI xs z = some v := by subst e; exact atI_nat h
theorem mem1 {a : Addr} : a ∈ [a] := List.mem_singleton.mpr rfl

/-! ## the ways behind a part joined -/
def tJ (te : TE) : TE := fun σ H Q => ∃ P : VK, te σ H P ∧ ∀ v H', P v H' → Q v H'
theorem pe_j {X : Cx} {e : Expr} {te : TE} (h : PE X e te) : PE X e (tJ te) :=
  ⟨fun pins s σ H Q I ⟨P, h1, h2⟩ => wpAny_mono (h.run pins s σ H P I h1) (fun v s' ⟨x, H', I', r, p⟩ => ⟨x, H', I', r, h2 x H' p⟩) fun _ _ z => z⟩
def tJT (tt : TT) : TT := fun σ H Q => ∃ P : Bool → Hp → Prop, tt σ H P ∧ ∀ v H', P v H' → Q v H'
theorem pt_j {X : Cx} {e : Expr} {tt : TT} (h : PT X e tt) : PT X e (tJT tt) :=
  ⟨fun pins s σ H Q I ⟨P, h1, h2⟩ => wpAny_mono (h.run pins s σ H P I h1) (fun v s1 ⟨H1, I1, p⟩ => ⟨H1, I1, h2 v H1 p⟩) fun _ _ z => z⟩
def tJS (t : TS) : TS := fun D σ H => ∃ N : L2.St → Hp → Prop, t { D with nx := N } σ H ∧ ∀ σ' H', N σ' H' → D.nx σ' H'
theorem ps_j {X : Cx} {st : Stmt} {t : TS} (h : PS X st t) : PS X st (tJS t) :=
  ⟨fun pins s σ H D I ⟨N, h1, h2⟩ => wpAny_mono (h.run pins s σ H _ I h1) (fun f s' p => by
    cases f with
    | next => obtain ⟨σ', H', J, q⟩ := p; exact ⟨σ', H', J, h2 σ' H' q⟩
    | ret u => exact p
    | brk => exact p
    | cont => exact p) fun _ _ z => z⟩
section
variable {X : Cx} {x : Str} {pos : Pos}
/-- the module's constants -/
theorem pe_gi {n : Int} (h : ∃ t, X.mg x = some (.int n t)) (hg : Gl X x := by rfl) (hd : (x == ("__debug__" : Str)) = false := by decide) : PE X (.Name x pos) (tC (.int n)) := let ⟨t, e⟩ := h; pe_glob hg e ⟨t, rfl⟩ hd
theorem pe_gs {z : Str} (h : ∃ t, X.mg x = some (.str z t)) (hg : Gl X x := by rfl) (hd : (x == ("__debug__" : Str)) = false := by decide) : PE X (.Name x pos) (tC (.str z)) := let ⟨t, e⟩ := h; pe_glob hg e ⟨t, rfl⟩ hd
theorem pe_gr {a : Addr} (h : X.mg x = some (.ref a)) (hg : Gl X x := by rfl) (hd : (x == ("__debug__" : Str)) = false := by decide) : PE X (.Name x pos) (tC (.ref a)) := pe_glob hg h rfl hd
theorem pe_ty {T : String} (h : X.mg x = none) (hv : bootBuiltins x = some (.type T)) (hg : Gl X x := by rfl) (hn : x ≠ "__name__" := by decide) (hd : (x == ("__debug__" : Str)) = false := by decide) : PE X (.Name x pos) (tC (.ty T)) := pe_bltn hg h hv rfl hn hd
end

/-! ## one of two rules -/
section
variable {X : Cx}
theorem ix_or {r1 r2 : R2} (h1 : IxR X r1) (h2 : IxR X r2) : IxR X (fun x y H Q => r1 x y H Q ∨ r2 x y H Q) := fun b hb pins s σ H x y v u Q I a c h => h.elim (fun q => h1 b hb pins s σ H x y v u Q I a c q) (fun q => h2 b hb pins s σ H x y v u Q I a c q)
theorem pi_or {tg e : Expr} {w1 w2 : TI} (h1 : PI X tg e w1) (h2 : PI X tg e w2) : PI X tg e (fun σ H R => w1 σ H R ∨ w2 σ H R) := ⟨fun pins s σ H R I h => h.elim (fun q => h1.run pins s σ H R I q) (fun q => h2.run pins s σ H R I q)⟩
theorem op_or' {f : Value → Value → Sem Value} {r1 r2 : R2} (h1 : OpR X f r1) (h2 : OpR X f r2) : OpR X f (fun x y H Q => r1 x y H Q ∨ r2 x y H Q) := fun pins s σ H x y v u Q I a c h => h.elim (fun q => h1 pins s σ H x y v u Q I a c q) (fun q => h2 pins s σ H x y v u Q I a c q)
theorem call_or {f : Value} {r1 r2 : List V → Hp → VK → Prop} (h1 : CallR X f r1) (h2 : CallR X f r2) : CallR X f (fun x H Q => r1 x H Q ∨ r2 x H Q) := fun pins s σ H x u Q I a h => h.elim (fun q => h1 pins s σ H x u Q I a q) (fun q => h2 pins s σ H x u Q I a q)
end
/-- o.f as one of several targets -/
def gFld (K : PySem.W.Frag) (ta : TE) (f : Str) : TG := fun y σ H Q => ta σ H fun x H2 => ∃ a C dx fs, x = .ref a ∧ H2 a = some (.ins C dx fs) ∧ Cls K C ∧ NoAttr K C f ∧ fs.length < 1000 ∧ Q σ (upd H2 a (.ins C dx (putF f y fs)))
theorem pg_fld {X : Cx} {o : Expr} {f : Str} {ta : TE} {pos : Pos} (ha : PE X o ta) : PG X (.Attribute o f pos) (gFld X.K ta f) := by
  refine ⟨fun pins s σ H v u Q I r h => ?_⟩
  rw [assign_Attribute]
  refine wpAny_bind (wpAny_holding (thn (ha.run pins s σ H _ I h) fun ov s1 ⟨x, H1, I1, rx, a, C, dx, fs, ex, ea, c, n, l, q⟩ => ?_))
  subst ex
  obtain rfl : ov = Value.ref a := rx
  refine wpAny_bind (wpAny_standAt (wpAny_bind (wpAny_holding (setattr_ok I1 ea c n l r fun s3 I3 => ?_))))
  exact wpAny_release ⟨σ, _, I3, q⟩
section
variable {P : Program} {w : World} {K : PySem.W.Frag} {mg : Str → Option Value} {base : Heap} {k : Nat} {f : Addr} {ps N : List Str} {sp : Sp} {x qual : Str} {params : Arguments} {body : List Stmt} {scope : Scope}
/-- bindings where every parameter is written -/
def Bd (x qual : Str) (params : Arguments) (body : List Stmt) (scope : Scope) (ps : List Str) : Prop :=
  ∀ (kV doc pm : Value) (an : Option Addr) (cdv ct : Value) (us : List Value), us.length = ps.length → bindArgs (PySem.W.fnOf x qual params body scope .none kV doc pm an cdv ct) ⟨us, []⟩ = pure (ps.zip us)
/-- what a body shows -/
def By (P : Program) (w : World) (K : PySem.W.Frag) (mg : Str → Option Value) (base : Heap) (k : Nat) (f : Addr) (N : List Str) (qual : Str) (body : List Stmt) (scope : Scope) (sp : Sp) : Prop :=
  ∀ (cdv : Value) (A : Around) (outer : List Env) (s : Shared) (H : Hp) (vs : List V) (Q : VK) (E : XK), Room k (A.deeper (envOfC qual scope s.heap.objs.size f cdv)) → sp vs H Q E →
      ∃ t, PSs (cxOf CX0 P w K mg base N qual scope f cdv A outer s H E).nox body t ∧ t { nx := fun _ H' => Q .non H', rt := Q } (start N vs) H
theorem okD {dvs : List V} {fd : FuncData} (F : FunD K x qual params body scope dvs [] f fd) (S : FnScope N ps scope) (len : ∀ vs H Q E, sp vs H Q E → vs.length = ps.length) (hb : By P w K mg base k f N qual body scope sp) : FnOk P w K mg base CX0 (k + 1) f fd ps sp :=
  F.ok S len fun cdv A o s H vs Q E hr h => let ⟨t, h1, h2⟩ := hb cdv A o s H vs Q E hr h; ⟨t, h1.nox, h2⟩
theorem calD (h : ∃ fd, FunD K x x params body scope [] [] f fd) (g : mg x = some (.ref f)) (S : FnScope N ps scope) (bd : Bd x x params body scope ps) (len : ∀ vs H Q E, sp vs H Q E → vs.length = ps.length)
    (hb : By P w K mg base k f N x body scope sp) : C8.Cal P w K mg base (k + 1) x sp [] := by
  obtain ⟨fd, F⟩ := h
  exact ⟨f, fd, ps, [], okD F S len hb, g, F.kp, F.bindsN bd, .nil⟩
theorem metD {C : Addr} (h : ∃ fd, FunD K x qual params body scope [] [] f fd) (c : Cls K C) (m : Meth K C x f) (S : FnScope N ps scope) (bd : Bd x qual params body scope ps) (len : ∀ vs H Q E, sp vs H Q E → vs.length = ps.length)
    (hb : By P w K mg base k f N qual body scope sp) : C8.Met P w K mg base (k + 1) C x sp [] := by
  obtain ⟨fd, F⟩ := h
  exact ⟨f, fd, ps, [], c, m, okD F S len hb, F.bindsN bd, .nil⟩
theorem makD {C : Addr} {cn : Str} (h : ∃ fd, FunD K x qual params body scope [] [] f fd) (M : Mk K C f) (g : mg cn = some (.ref C)) (S : FnScope N ps scope) (bd : Bd x qual params body scope ps) (len : ∀ vs H Q E, sp vs H Q E → vs.length = ps.length)
    (hb : By P w K mg base k f N qual body scope sp) : C8.Mak P w K mg base (k + 1) cn C sp [] := by
  obtain ⟨fd, F⟩ := h
  exact ⟨f, fd, ps, [], M, okD F S len hb, g, F.bindsN bd, .nil⟩
/-- a class whose __init__ has defaults, n written arguments (self among them), the defaults behind the first j -/
theorem makD1 {C : Addr} {cn : Str} {dvs : List V} (h : ∃ fd, FunD K x qual params body scope dvs [] f fd) (M : Mk K C f) (g : mg cn = some (.ref C)) (S : FnScope N ps scope) (n j : Nat) (hd : dvs ≠ []) (hn : n + (dvs.length - j) = ps.length)
    (bd : ∀ (T : Addr) (kV doc pm : Value) (an : Option Addr) (cdv ct : Value) (us its : List Value), us.length = n → its.length = dvs.length →
      ∃ k, bindArgs (PySem.W.fnOf x qual params body scope (.ref T) kV doc pm an cdv ct) ⟨us, []⟩ = seqItems? (.ref T) >>= k ∧ k (some its.toArray) = pure (ps.zip (us ++ its.drop j)))
    (len : ∀ vs H Q E, sp vs H Q E → vs.length = ps.length) (hb : By P w K mg base k f N qual body scope sp) : C8.Mak P w K mg base (k + 1) cn C sp (dvs.drop j) := by
  obtain ⟨fd, F⟩ := h
  obtain ⟨ds, h1, h2⟩ := F.binds1 n j hd hn bd
  exact ⟨f, fd, ps, ds, M, okD F S len hb, g, h2, h1⟩
/-- what a body shows, nothing being shown around -/
def ByG (P : Program) (w : World) (K : PySem.W.Frag) (mg : Str → Option Value) (base : Heap) (k : Nat) (f : Addr) (N : List Str) (qual : Str) (body : List Stmt) (scope : Scope) (sp : Sp) : Prop :=
  ∀ (cdv : Value) (A : Around) (outer : List Env) (s : Shared) (H : Hp) (vs : List V) (Q : VK) (E : XK), (A.deeper (envOfC qual scope s.heap.objs.size f cdv)).guards = some [] → Room k (A.deeper (envOfC qual scope s.heap.objs.size f cdv)) → sp vs H Q E →
      ∃ t, PSs (cxOf CX0 P w K mg base N qual scope f cdv A outer s H E).nox body t ∧ t { nx := fun _ H' => Q .non H', rt := Q } (start N vs) H
theorem calG (h : ∃ fd, FunD K x x params body scope [] [] f fd) (g : mg x = some (.ref f)) (S : FnScope N ps scope) (bd : Bd x x params body scope ps) (len : ∀ vs H Q E, sp vs H Q E → vs.length = ps.length)
    (hb : ByG P w K mg base k f N x body scope sp) : CalG P w K mg base (k + 1) x sp := by
  obtain ⟨fd, F⟩ := h
  exact ⟨f, fd, ps, okG F S len hb, g, F.kp, F.bindsN bd⟩
end

theorem pe_mk0 {X : Cx} {k j : Nat} {C : Addr} {x : Str} {sp : Sp} {dvs : List V} {p pos : Pos} (c : C8.Mak X.prog X.w X.K X.mg X.base k x C sp dvs) (hr : Room j X.A) (hk : k + 1 ≤ j) (hg : Gl X x) (hdb : (x == ("__debug__" : Str)) = false := by decide) :
    PE X (.Call (.Name x p) [] [] pos) (tMake C sp dvs E0 tNil) := by
  obtain ⟨f, fd, ps, ds, M, F, hm, b, d⟩ := c.ex
  exact pe_make0 M F (hr.mono hk) hg hm b d pass0 hdb
/-! ## o[i] = v by an own __setitem__ -/
def rSetO (C : Addr) (sp : Sp) : TSet := fun o i v H Q => ∃ a dx fs, o = .ref a ∧ H a = some (.ins C dx fs) ∧ sp [.ref a, i, v] H (fun _ H' => Q H') E0
theorem set_own {X : Cx} {k j : Nat} {C : Addr} {sp : Sp} (c : C8.Met X.prog X.w X.K X.mg X.base k C "__setitem__" sp []) (nq : PySem.W.noSeq X.K C = true) (hr : Room j X.A) (hk : k ≤ j) : PSet X (rSetO C sp) := by
  intro pins s σ H o i v ov iv u Q I ro ri rv h
  obtain ⟨a, dx, fs, rfl, ea, q⟩ := h
  cases (show ov = Value.ref a from ro)
  obtain ⟨f, fd, ps, ds, hc, hm, F, b, d⟩ := c.ex
  cases d
  obtain ⟨mA, O, _⟩ := ins_get I.hok ea
  obtain ⟨od, J, _⟩ := O.look
  obtain ⟨m, Fm⟩ := I.fr
  refine PySem.W.ksp_setItem Fm I.ok.mod.kin J nq hm.at_ hm.fn ?_
  exact thn (run_fn (us := [.ref a, iv, u]) (vs := [.ref a, i, v]) F (hr.mono hk) b .nil pass0 I (.cons rfl (.cons ri (.cons rv .nil))) q) fun _ s' ⟨_, H', I', _, q'⟩ => ⟨H', I', q'⟩
/-! ## enumerate(text) -/
def Ites (z : Str) : It := ⟨fun i _ => i < z.cps.size, fun i H v H' => ∃ T c, v = .ref T ∧ H T = none ∧ H' = upd H T (.tup [.int (i : Nat), .str ⟨#[c]⟩]) ∧ z.cps[i]? = some c, fun i _ => z.cps.size ≤ i⟩
theorem turn_enumS {P : Program} {w : World} {K : PySem.W.Frag} {elts : List Expr} {kk : Nat} {tpos : Pos} (z : Str) (t : Tok) (e it : Addr) :
    Turn P w K (.Tuple elts kk tpos) (Ites z) [e, it] e (fun i h => (∃ old, IsEnum h e it ((i : Nat) : Int) old) ∧ h.IsStrIter it (strIterType z) z t i ∧ e ≠ it ∧ i ≤ z.cps.size) where
  mem := by simp
  obj := fun i h st b hb => by
    obtain ⟨⟨old, he⟩, ⟨o, ho, hc, hd⟩, _⟩ := st
    rcases (show b = e ∨ b = it by simpa using hb) with q | q
    · exact q ▸ ⟨_, he, fun v q => nomatch q⟩
    · exact q ▸ ⟨o, ho, fun v q => by rw [hd] at q; cases q⟩
  keep := fun i h h' st k => let ⟨⟨old, he⟩, ⟨o, ho, r⟩, hne, hl⟩ := st; ⟨⟨old, k e (by simp) _ he⟩, ⟨o, k it (by simp) o ho, r⟩, hne, hl⟩
  item := by
    intro X hP hw hK hc i pins s σ H E I hf st hg
    subst hP hw hK
    obtain ⟨⟨old, he⟩, hit, hne, hl⟩ := st
    have D := Draws.text (prog := X.prog) (w := X.w) (A := X.A.in1) (I.ok.hd hc) it z t
    have hel : e < s.heap.objs.size := Heap.lt_size he
    have hil : it < s.heap.objs.size := let ⟨_, q, _⟩ := hit; Heap.lt_size q
    refine wpAny_pyNext_enum_itemD D he hit hg hne (by simpa using hne) fun v h' tk hv ho hit' hT hsz hk => ?_
    obtain ⟨c, u, hcx, rfl⟩ := hv
    refine ⟨_, rfl, wpAny_letOwnedTupleGo_enum (s := { s with heap := h', toks := tk + 1 }) ho fun h'' he' sb => ?_⟩
    have hT2 := (sb.2 _ (Nat.ne_of_gt hel)).trans hT
    have new : ObjOk X.prog X.w (upd H s.heap.objs.size (.tup [.int (i : Nat), .str ⟨#[c]⟩])) h'' s.heap.objs.size (.tup [.int (i : Nat), .str ⟨#[c]⟩]) :=
      ⟨by show 2 ≤ sizeLine; decide, _, .cons ⟨_, rfl⟩ (.cons ⟨_, rfl⟩ .nil), ⟨_, hT2, rfl, _, rfl⟩⟩
    have I1 := I.turnedNew (h' := h'') (t' := tk + 1) (ch := [e, it]) (fun b ob hb q => (sb.2 b (fun y => hb (by simp [y]))).trans (hk b ob (fun y => hb (by simp [y])) (fun y => hb (by simp [y])) q)) hf (Nat.le_refl _) new
    refine ⟨.ref s.heap.objs.size, _, I1, rfl, ⟨_, c, rfl, I.hok.fresh (Nat.le_refl _), rfl, hcx⟩, ⟨⟨_, (by rw [show ((i + 1 : Nat) : Int) = (i : Int) + 1 by omega]; exact he')⟩, ?_, hne, hg⟩, fun b hb => ?_⟩
    · obtain ⟨o, q, r⟩ := hit'
      exact ⟨o, (sb.2 it (Ne.symm hne)).trans q, r⟩
    · have hb' : b < s.heap.objs.size := by
        rcases (show b = e ∨ b = it by simpa using hb) with q | q
        · rw [q]; exact hel
        · rw [q]; exact hil
      rw [upd_ne (Nat.ne_of_lt hb')]
      exact (hf b hb).1
  done := by
    intro X hP hw hK hc i pins s σ H E I hf st hg
    subst hP hw hK
    obtain ⟨⟨old, he⟩, hit, hne, hl⟩ := st
    have ei : i = z.cps.size := Nat.le_antisymm hl hg
    have D := Draws.text (prog := X.prog) (w := X.w) (A := X.A.in1) (I.ok.hd hc) it z t
    obtain ⟨f0, f1, f2, f3, f4, f5⟩ := hf it (by simp)
    exact wpAny_pyNext_enum_endD D he (ei ▸ hit) fun h' eb => ⟨rfl, I.turned (t' := s.toks) (fun b o hb q => eb b o hb q) f0 f1 f3 f4 f5⟩
  self := fun A i s Q E st h => let ⟨⟨_, he⟩, _⟩ := st; wpAny_pyIter_enum he h
def iEnumS (ta : TA) : TI := fun σ H R => ta σ H fun vs H1 => ∃ z, vs = [.str z] ∧ R (Ites z) H1
theorem pi_enumS {X : Cx} {e : Expr} {ta : TA} {p pos tpos : Pos} {elts : List Expr} {kk : Nat} (hg : Gl X "enumerate") (hm : X.mg "enumerate" = none) (ha : PA X [e] ta) (hs : starEach [e] X.env = [(false, eval e X.env)] := by rfl) :
    PI X (.Tuple elts kk tpos) (.Call (.Name "enumerate" p) [e] [] pos) (iEnumS ta) := by
  refine ⟨fun pins s σ H R I h => Call_ (ld_blt I hg hm boot_enumerate (PyProof.Rows.callWith_type1 (thn (ha.run pos pins s σ H _ I h) fun us s1 ⟨vs, H1, I1, r1, q1⟩ => ?_) hs rfl))⟩
  obtain ⟨z, rfl, q⟩ := q1
  obtain ⟨u, rfl, t, rfl⟩ := vals1 r1
  refine call_enumerate_str fun h' he hit hsz hk => wpAny_pyIter_enum he ?_
  have I2 : Inv X pins σ H1 { s1 with heap := h' } := I1.kept (t' := s1.toks) hk
  refine ⟨s1.heap.objs.size + 1, [s1.heap.objs.size + 1, s1.heap.objs.size], _, _, H1, rfl, I2, turn_enumS z t _ _, ⟨⟨.none, he⟩, hit, Nat.succ_ne_self _, Nat.zero_le _⟩, fun b hb => ?_, q⟩
  have hle : s1.heap.objs.size ≤ b := by
    rcases (show b = s1.heap.objs.size + 1 ∨ b = s1.heap.objs.size by simpa using hb) with y | y
    · rw [y]; exact Nat.le_add_right _ _
    · rw [y]; exact Nat.le_refl _
  exact I1.fpOk hle (I1.hok.fresh hle)
theorem walk_enumS {z : Str} : Walk (Ites z) z.cps.size (fun _ => True) (YPair (fun i => some (.int (i : Nat))) (fun i => (z.cps[i]?).map fun c => V.str ⟨#[c]⟩)) :=
  ⟨fun _ _ hi _ => hi, fun _ _ => Nat.le_refl _, fun i H v H' _ _ y => let ⟨T, c, h1, h2, h3, h4⟩ := y; ⟨T, _, _, h1, h2, h3, rfl, by show Option.map _ z.cps[i]? = _; rw [h4]; rfl⟩⟩
end Eb
set_option maxHeartbeats 4000000
namespace Eb
open PySem PySem.Spec PyProof.Rows L2
/-! ## texts as lists of signs -/
def tx (l : List Nat) : Str := ⟨l.toArray⟩
theorem tx_list (l : List Nat) : (tx l).cps.toList = l := by simp [tx]
theorem tx_of (z : Str) : tx z.cps.toList = z := by simp [tx]
theorem tx_size (l : List Nat) : (tx l).cps.size = l.length := by simp [tx]
theorem tx_len (l : List Nat) : (tx l).length = l.length := tx_size l
theorem tx_get (l : List Nat) (i : Nat) : (tx l).cps[i]? = l[i]? := by simp [tx]
theorem tx_app (a b : List Nat) : tx a ++ tx b = tx (a ++ b) := by
  show Str.append (tx a) (tx b) = _
  simp [Str.append, tx]
theorem tx_inj {a b : List Nat} (h : tx a = tx b) : a = b := by rw [← tx_list a, h, tx_list]
theorem tx_eq {a b : List Nat} : tx a = tx b ↔ a = b := ⟨tx_inj, fun h => by rw [h]⟩
theorem tx_ex (z : Str) : ∃ l, z = tx l := ⟨_, (tx_of z).symm⟩
theorem tx_nil : (PySem.Str.ofString "" : Str) = tx [] := by decide +kernel
theorem cut_to (l : List Nat) (k : Nat) : cutS (tx l) none (some (k : Int)) = tx (l.take k) := by
  unfold cutS
  rw [tx_list, HT.sIx_none, HT.sIx_nat, tx_len, List.drop_zero, Nat.sub_zero]
  show tx _ = tx _
  rw [tx_eq]
  by_cases h : k ≤ l.length
  · rw [Nat.min_eq_left h]
  · rw [Nat.min_eq_right (by omega), List.take_of_length_le (Nat.le_refl _), List.take_of_length_le (by omega)]
theorem cut_from (l : List Nat) (k : Nat) : cutS (tx l) (some (k : Int)) none = tx (l.drop k) := by
  unfold cutS
  rw [tx_list, HT.sIx_none, HT.sIx_nat, tx_len]
  show tx _ = tx _
  rw [tx_eq]
  by_cases h : k ≤ l.length
  · rw [Nat.min_eq_left h, List.take_of_length_le (by rw [List.length_drop]; exact Nat.le_refl _)]
  · rw [Nat.min_eq_right (by omega), List.drop_eq_nil_of_le (Nat.le_refl _), List.drop_eq_nil_of_le (by omega), List.take_nil]
theorem txt_join (sep : Str) (l : List Str) : Txt.join sep l = Str.join sep l := by
  have h := join_plain_closes sep l
  simpa using h
theorem join3 (a b c : List Nat) : Txt.join (PySem.Str.ofString "") [tx a, tx b, tx c] = tx (a ++ b ++ c) := by
  rw [txt_join, tx_nil]
  show tx a ++ tx [] ++ (tx b ++ tx [] ++ tx c) = _
  rw [tx_app, tx_app, tx_app, tx_app, tx_eq]
  simp
/-- one sign after another -/
theorem join_signs : ∀ l : List Nat, Txt.join (PySem.Str.ofString "") (l.map fun c => tx [c]) = tx l := by
  intro l
  rw [txt_join, tx_nil]
  induction l with
  | nil => rfl
  | cons c r ih =>
    cases r with
    | nil => rfl
    | cons c2 r =>
      show tx [c] ++ tx [] ++ Str.join (tx []) ((c2 :: r).map fun c => tx [c]) = _
      rw [ih, tx_app, tx_app, tx_eq]
      rfl
/-- the digits of a count -/
def dig (n : Nat) : List Nat := (PySem.Str.ofString (toString (n : Int))).cps.toList
theorem dig_eq (n : Nat) : (PySem.Str.ofString (toString (n : Int)) : Str) = tx (dig n) := (tx_of _).symm
theorem dig_len (n : Nat) : (dig n).length = (Nat.repr n).length := by
  unfold dig
  rw [PySem.Str.ofString_eq_toList]
  show (((toString (n : Int)).toList.map Char.toNat).toArray.toList).length = _
  rw [List.toList_toArray, List.length_map]
  rfl
theorem dig_le {n k : Nat} (hk : 0 < k) (h : n < 2 ^ k) : (dig n).length ≤ k := by
  rw [dig_len]; exact nat_repr_length_le hk h
/-- a list with just one hash -/
theorem one_hash : ∀ {l : List Nat}, (l.filter (· != 35)).length + 1 = l.length → ∃ A B, l = A ++ 35 :: B ∧ A.all (· != 35) = true ∧ B.all (· != 35) = true ∧ l.filter (· != 35) = A ++ B
  | [], h => by simp at h
  | c :: r, h => by
    by_cases e : c = 35
    · subst e
      have h2 : (r.filter (· != 35)).length = r.length := by simpa using h
      have h3 : r.filter (· != 35) = r := List.filter_eq_self.mpr (List.length_filter_eq_length_iff.mp h2)
      exact ⟨[], r, rfl, rfl, List.all_eq_true.mpr (List.length_filter_eq_length_iff.mp h2), by simpa using h3⟩
    · have ne : (c != 35) = true := by simpa using e
      have fc : ∀ q : List Nat, (c :: q).filter (· != 35) = c :: q.filter (· != 35) := fun q => List.filter_cons_of_pos (p := (· != 35)) ne
      rw [fc] at h
      obtain ⟨A, B, h1, h2, h3, h4⟩ := one_hash (l := r) (by simpa using h)
      exact ⟨c :: A, B, by rw [h1]; rfl, by simp [h2, e], h3, by rw [fc, h4]; rfl⟩
theorem hash_eq : ((PySem.Str.ofString "#") : Str) = ⟨#[35]⟩ := by decide +kernel
theorem split_uniq : ∀ {A p B q : List Nat}, (∀ c ∈ A, c ≠ 35) → (∀ c ∈ B, c ≠ 35) → p ++ 35 :: q = A ++ 35 :: B → p = A ∧ q = B
  | [], [], B, q, _, _, h => ⟨rfl, by simpa using h⟩
  | [], c :: p, B, q, _, hB, h => by
    have h2 : c = 35 ∧ p ++ 35 :: q = B := by simpa using h
    exact absurd rfl (hB 35 (by rw [← h2.2]; simp))
  | a :: A, [], B, q, hA, _, h => by
    have h2 : 35 = a := (List.cons.inj (show 35 :: q = a :: (A ++ 35 :: B) from h)).1
    exact absurd h2.symm (hA a (by simp))
  | a :: A, c :: p, B, q, hA, hB, h => by
    have h2 : c = a ∧ p ++ 35 :: q = A ++ 35 :: B := by simpa using h
    obtain ⟨e1, e2⟩ := split_uniq (fun x hx => hA x (List.mem_cons_of_mem _ hx)) hB h2.2
    exact ⟨by rw [h2.1, e1], e2⟩
theorem cnt_zero : ∀ {l : List Nat}, (∀ c ∈ l, c ≠ 35) → cnt 35 l = 0
  | [], _ => rfl
  | c :: r, h => by
    have ih := cnt_zero (l := r) fun x hx => h x (List.mem_cons_of_mem _ hx)
    have hc := h c (by simp)
    rw [cnt_cons, ih, if_neg hc]; rfl
theorem cnt_one : ∀ {A B : List Nat}, (∀ c ∈ A, c ≠ 35) → (∀ c ∈ B, c ≠ 35) → cnt 35 (A ++ 35 :: B) = 1
  | [], B, _, hB => by
    show cnt 35 (35 :: B) = 1
    rw [cnt_cons, cnt_zero hB, if_pos rfl]; rfl
  | a :: A, B, hA, hB => by
    have ih := cnt_one (A := A) (fun x hx => hA x (List.mem_cons_of_mem _ hx)) hB
    have ha := hA a (by simp)
    show cnt 35 (a :: (A ++ 35 :: B)) = 1
    rw [cnt_cons, ih, if_neg ha]; rfl
theorem split_none {l : List Nat} (h : ∀ c ∈ l, c ≠ 35) : Txt.split (tx l) (PySem.Str.ofString "#") = [tx l] := by
  have e1 := split_len (tx l) 35
  have e2 := StrLaws.join_split (tx l) ⟨#[35]⟩
  rw [tx_list, cnt_zero h] at e1
  rw [hash_eq]
  match hx : Txt.split (tx l) ⟨#[35]⟩ with
  | [] => rw [hx] at e1; simp at e1
  | [a] => rw [hx] at e2; exact congrArg (fun z => [z]) e2
  | a :: b :: r => rw [hx] at e1; simp at e1; omega
theorem split_two {A B : List Nat} (hA : ∀ c ∈ A, c ≠ 35) (hB : ∀ c ∈ B, c ≠ 35) : Txt.split (tx (A ++ 35 :: B)) (PySem.Str.ofString "#") = [tx A, tx B] := by
  have e1 := split_len (tx (A ++ 35 :: B)) 35
  have e2 := StrLaws.join_split (tx (A ++ 35 :: B)) ⟨#[35]⟩
  rw [tx_list, cnt_one hA hB] at e1
  rw [hash_eq]
  match hx : Txt.split (tx (A ++ 35 :: B)) ⟨#[35]⟩ with
  | [] => rw [hx] at e1; simp at e1
  | [a] => rw [hx] at e1; simp at e1
  | [a, b] =>
    rw [hx] at e2
    obtain ⟨p, rfl⟩ := tx_ex a
    obtain ⟨q, rfl⟩ := tx_ex b
    have e3 : tx p ++ tx [35] ++ tx q = tx (A ++ 35 :: B) := e2
    rw [tx_app, tx_app, tx_eq] at e3
    obtain ⟨h1, h2⟩ := split_uniq (p := p) (q := q) hA hB (by simpa using e3)
    rw [h1, h2]
  | a :: b :: c :: r => rw [hx] at e1; simp at e1; omega
theorem putF_le (f : Str) (v : V) : ∀ fs : List (Str × V), (putF f v fs).length ≤ fs.length + 1
  | [] => Nat.le_refl _
  | (g, x) :: r => by
    unfold putF
    split
    · simp
    · have := putF_le f v r
      simp only [List.length_cons]
      omega
theorem putF_lt {f : Str} {v : V} {fs : List (Str × V)} (n : Nat) (h : fs.length ≤ n) (hn : n < 900) : (putF f v fs).length < 1000 := by have := putF_le f v fs; omega
theorem putF_n {f : Str} {v : V} {fs : List (Str × V)} {n : Nat} (h : fs.length ≤ n) : (putF f v fs).length ≤ n + 1 := by have := putF_le f v fs; omega
/-! ## how long repr's text is -/
structure Sh (d : PyData) (n k : Nat) : Prop where
  sh : d.showable = true
  nd : d.hasDict = false
  sz : d.shown.length ≤ n
  dp : d.depth ≤ k
structure ShA (ds : List PyData) (n k : Nat) : Prop where
  sh : PyData.showableAll ds = true
  nd : PyData.hasDictAll ds = false
  sz : ((PyData.shownAll ds).map (·.length)).sum ≤ n
  dp : PyData.depthAll ds ≤ k
theorem Sh.le {d : PyData} {n k m j : Nat} (h : Sh d n k) (h1 : n ≤ m) (h2 : k ≤ j) : Sh d m j := ⟨h.sh, h.nd, Nat.le_trans h.sz h1, Nat.le_trans h.dp h2⟩
theorem sh_none : Sh .none 4 1 := ⟨rfl, rfl, by decide +kernel, by decide⟩
theorem sh_bool (b : Bool) : Sh (.bool b) 5 1 := by cases b <;> exact ⟨rfl, rfl, by decide +kernel, by decide⟩
theorem sh_int (i : Nat) {k : Nat} (hk : 0 < k) (hk2 : k ≤ 1900) (h : i < 2 ^ k) : Sh (.int (i : Int)) k 1 := by
  refine ⟨?_, rfl, ?_, by simp [PyData.depth]⟩
  · show decide _ = true
    refine decide_eq_true ?_
    rw [Int.natAbs_natCast]
    by_cases h0 : i = 0
    · subst h0; decide
    · exact Nat.lt_of_lt_of_le ((Nat.log2_lt h0).mpr h) (by omega)
  · have e := dig_le hk h
    unfold dig at e
    rw [Array.length_toList] at e
    exact e
theorem sh_str (z : Str) (h : ∀ c ∈ z.cps.toList, c < 128) : Sh (.str z) (10 * z.length + 2) 1 := ⟨rfl, rfl, StrLaws.reprText_len z fun c hc => Nat.lt_of_lt_of_le (h c hc) (by decide), by simp [PyData.depth]⟩
theorem sha_nil : ShA [] 0 0 := ⟨rfl, rfl, by decide, by simp [PyData.depthAll]⟩
theorem sha_cons {d : PyData} {ds : List PyData} {n m k j : Nat} (h : Sh d n k) (t : ShA ds m j) : ShA (d :: ds) (n + m) (max k j) := by
  refine ⟨?_, ?_, ?_, ?_⟩
  · simp [PyData.showableAll, h.sh, t.sh]
  · simp [PyData.hasDictAll, h.nd, t.nd]
  · simp only [PyData.shownAll, List.map_cons, List.sum_cons]
    have := h.sz; have := t.sz; omega
  · simp only [PyData.depthAll]
    have := h.dp; have := t.dp; omega
theorem shownAll_length : ∀ ds : List PyData, (PyData.shownAll ds).length = ds.length
  | [] => rfl
  | d :: ds => by simp only [PyData.shownAll, List.length_cons, shownAll_length ds]
theorem sh_list {ds : List PyData} {n k : Nat} (h : ShA ds n k) : Sh (.list ds) (n + 2 * ds.length + 3) (k + 1) := by
  refine ⟨h.sh, h.nd, ?_, ?_⟩
  · have := listText_len_le (PyData.shownAll ds)
    rw [shownAll_length] at this
    have := h.sz
    show (listText (PyData.shownAll ds)).length ≤ _
    omega
  · simp only [PyData.depth]; have := h.dp; omega
theorem sh_tup {ds : List PyData} {n k : Nat} (h : ShA ds n k) : Sh (.tuple ds) (n + 2 * ds.length + 3) (k + 1) := by
  refine ⟨h.sh, h.nd, ?_, ?_⟩
  · have := tupleText_len_le (PyData.shownAll ds)
    rw [shownAll_length] at this
    have := h.sz
    show (tupleText (PyData.shownAll ds)).length ≤ _
    omega
  · simp only [PyData.depth]; have := h.dp; omega
theorem Sh.showy {d : PyData} {n k : Nat} (h : Sh d n k) (h1 : n ≤ 1000000) (h2 : k ≤ 100) : Showy d := ⟨h.sh, h.nd, Nat.le_trans h.sz (Nat.le_trans h1 (by decide)), Nat.le_trans h.dp h2⟩
end Eb
set_option maxHeartbeats 4000000
namespace Eb
open PySem PySem.Spec PyProof.Rows L2
/-! ## comparing instances by their own methods -/
/-- both are instances of the class at C; the method answers with a bool -/
def rCmpO (C : Addr) (sp : Sp) : R2 := fun x y H Q => ∃ a dx fs b dy gs, x = .ref a ∧ y = .ref b ∧ H a = some (.ins C dx fs) ∧ H b = some (.ins C dy gs) ∧ sp [.ref a, .ref b] H (fun v H' => (∃ z, v = .bl z) ∧ Q v H') E0
theorem op_cmpO {X : Cx} {op : CmpOp} {k j : Nat} {C : Addr} {m : Str} {sp : Sp} (c : C8.Met X.prog X.w X.K X.mg X.base k C m sp []) (hm' : (cmpInfo op).2.1 = m) (hop : ∀ v u, compareOp op v u = richCompare op v u) (hr : Room j X.A) (hk : k ≤ j) : OpR X (compareOp op) (rCmpO C sp) := by
  intro pins s σ H x y v u Q I rx ry h
  obtain ⟨a, dx, fs, b, dy, gs, rfl, rfl, ea, eb, q⟩ := h
  cases (show v = Value.ref a from rx)
  cases (show u = Value.ref b from ry)
  obtain ⟨f, fd, ps, ds, hc, hm, F, bd, d⟩ := c.ex
  cases d
  obtain ⟨mA, O, _⟩ := ins_get I.hok ea
  obtain ⟨od, J, _⟩ := O.look
  obtain ⟨mB, O', _⟩ := ins_get I.hok eb
  obtain ⟨od', J', _⟩ := O'.look
  obtain ⟨m, Fm⟩ := I.fr
  rw [hop]
  refine PySem.W.cmp_K (op := op) (tb := .ref C) hr.units0 Fm I.ok.mod.kin J J'.type (by simp [PySem.W.notFirst]) (by rw [hm']; exact hm.at_) hm.fn ?_
  refine thn (run_fn (us := [.ref a, .ref b]) (vs := [.ref a, .ref b]) F (hr.mono hk) bd .nil pass0 I (.cons rfl (.cons rfl .nil)) q) fun w s' ⟨v', H', I', rv, ⟨z, hz⟩, q'⟩ => ?_
  subst hz
  cases (show w = Value.bool z from rv)
  exact ⟨.bl z, H', I', rfl, q'⟩
/-- an instance on the left, a text on the right -/
def rCmpOS (C : Addr) (sp : Sp) : R2 := fun x y H Q => ∃ a dx fs t, x = .ref a ∧ y = .str t ∧ H a = some (.ins C dx fs) ∧ sp [.ref a, .str t] H (fun v H' => (∃ z, v = .bl z) ∧ Q v H') E0
theorem notFirst_str (K : PySem.W.Frag) (C : Addr) : PySem.W.notFirst K C (.type "str") = true := by
  unfold PySem.W.notFirst PySem.W.subIn
  rfl
theorem op_cmpOS {X : Cx} {op : CmpOp} {k j : Nat} {C : Addr} {m : Str} {sp : Sp} (c : C8.Met X.prog X.w X.K X.mg X.base k C m sp []) (hm' : (cmpInfo op).2.1 = m) (hop : ∀ v u, compareOp op v u = richCompare op v u) (hr : Room j X.A) (hk : k ≤ j) : OpR X (compareOp op) (rCmpOS C sp) := by
  intro pins s σ H x y v u Q I rx ry h
  obtain ⟨a, dx, fs, t, rfl, rfl, ea, q⟩ := h
  cases (show v = Value.ref a from rx)
  obtain ⟨tk, rfl⟩ := (show ∃ tk, u = Value.str t tk from ry)
  obtain ⟨f, fd, ps, ds, hc, hm, F, bd, d⟩ := c.ex
  cases d
  obtain ⟨mA, O, _⟩ := ins_get I.hok ea
  obtain ⟨od, J, _⟩ := O.look
  obtain ⟨m, Fm⟩ := I.fr
  rw [hop]
  refine PySem.W.cmp_K (op := op) (tb := .type "str") hr.units0 Fm I.ok.mod.kin J (PySem.W.Looks.of_pure rfl) (notFirst_str _ _) (by rw [hm']; exact hm.at_) hm.fn ?_
  refine thn (run_fn (us := [.ref a, .str t tk]) (vs := [.ref a, .str t]) F (hr.mono hk) bd .nil pass0 I (.cons rfl (.cons ⟨tk, rfl⟩ .nil)) q) fun w s' ⟨v', H', I', rv, ⟨z, hz⟩, q'⟩ => ?_
  subst hz
  cases (show w = Value.bool z from rv)
  exact ⟨.bl z, H', I', rfl, q'⟩
/-- a text on the left, an instance on the right: the reflected own == -/
def rEqSO (C : Addr) (sp : Sp) : R2 := fun x y H Q => ∃ a dx fs t, x = .str t ∧ y = .ref a ∧ H a = some (.ins C dx fs) ∧ sp [.ref a, .str t] H (fun v H' => (∃ z, v = .bl z) ∧ Q v H') E0
theorem str_eq_declines_inst (b : Str) (u : Tok) (l C dx : Addr) :
    Meets (Builtin.«str.__eq__» ⟨[.str b u, .ref l], []⟩) (fun _ R s => s.heap.get? l = some (PySem.W.instObj C dx) ∧ R (.ok (.ret .notImplemented)) s) :=
  .of_wp fun prog w A R s h => by obtain ⟨hp, g, d, tk, os⟩ := s; obtain ⟨hl, h⟩ := h; wp_walk using wpAny_loadPart' hl, wpAny_load hl; exact ⟨_, rfl, h⟩
theorem op_eqSO {X : Cx} {k j : Nat} {C : Addr} {sp : Sp} (c : C8.Met X.prog X.w X.K X.mg X.base k C "__eq__" sp []) (hs : PySem.W.subIn X.K (.ref C) (.type "str") = some false) (hr : Room j X.A) (hk : k ≤ j) : OpR X (compareOp .Eq) (rEqSO C sp) := by
  intro pins s σ H x y v u Q I rx ry h
  obtain ⟨a, dx, fs, t, rfl, rfl, ea, q⟩ := h
  cases (show u = Value.ref a from ry)
  obtain ⟨tk, rfl⟩ := (show ∃ tk, v = Value.str t tk from rx)
  obtain ⟨f, fd, ps, ds, hc, hm, F', bd, d⟩ := c.ex
  cases d
  obtain ⟨mA, O, _⟩ := ins_get I.hok ea
  obtain ⟨od, J, _⟩ := O.look
  obtain ⟨m, Fm⟩ := I.fr
  have KX := I.kIn
  show wpAny (model X.prog X.w) X.A (richCompare .Eq (.str t tk) (.ref a)) (EP X pins σ Q) X.xe s
  unfold richCompare
  refine wpAny_holding (wpAny_bind (wpAny_cRoomFor hr.units0 ?_))
  refine wpAny_bind ((PySem.W.Looks.of_pure rfl : PySem.W.Looks (model X.prog X.w) s.heap (typeOf (.str t tk)) (.type "str")).here (wpAny_bind (J.type.here ?_)))
  refine wpAny_bind ((PySem.W.looks_subIn KX hs).here ?_)
  simp only [Bool.false_eq_true, if_false]
  have one : ∀ {R : Option Value → Shared → Prop}, R none s → wpAny (model X.prog X.w) X.A (tryCompare (.str t tk) (cmpInfo .Eq).2.1 (.ref a)) R X.xe s := fun {R} hR => by
    unfold tryCompare
    refine wpAny_bind (wpAny_callSpecialIfBound?_slot (T := "str") (typeIs_str s t tk) F.slot_str_eq ?_)
    refine call_meets F.slot_str_eq (typeIs_str s t tk) F.entry_str_eq (F.args_str_eq_2 _ _) (str_eq_declines_inst t tk a C dx) ⟨J.at_, ?_⟩
    exact wpAny_pure hR
  refine wpAny_bind (one ?_)
  simp only [Bool.not_false, if_true]
  have two : wpAny (model X.prog X.w) X.A (tryCompare (.ref a) (cmpInfo .Eq).2.2 (.str t tk)) (fun r s' => ∃ z, r = some z ∧ EP X pins σ Q z s') X.xe s := by
    unfold tryCompare
    refine wpAny_bind (PySem.W.ifBound_K KX J hm.at_ hm.fn ?_)
    refine thn (run_fn (us := [.ref a, .str t tk]) (vs := [.ref a, .str t]) F' (hr.mono hk) bd .nil pass0 I (.cons rfl (.cons ⟨tk, rfl⟩ .nil)) q) fun w s' ⟨v', H', I', rv, ⟨z, hz⟩, q'⟩ => ?_
    subst hz
    cases (show w = Value.bool z from rv)
    exact wpAny_pure ⟨_, rfl, .bl z, H', I', rfl, q'⟩
  refine wpAny_bind (thn two fun r s' ⟨z, hz, h⟩ => ?_)
  subst hz
  exact wpAny_pure h
/-! ## != by an own == -/
theorem on_slot : Slot "object" "__ne__" "object.__ne__" :=
  Slot.of (T := "object") (name := "__ne__") (owner := "object") (n := "__ne__") (id := "object.__ne__") (by rw [typeLookup_type, builtinLookup_eq_fast]; kernel_rfl) (by decide +kernel) (by decide +kernel) (by decide +kernel) (.inl (by decide +kernel)) (by rw [isSubtype_type]; kernel_rfl)
def rNeO (C : Addr) (sp : Sp) : R2 := fun x y H Q => ∃ a dx fs b dy gs, x = .ref a ∧ y = .ref b ∧ H a = some (.ins C dx fs) ∧ H b = some (.ins C dy gs) ∧ sp [.ref a, .ref b] H (fun v H' => ∃ z, v = .bl z ∧ Q (.bl (!z)) H') E0
theorem op_neO {X : Cx} {k j : Nat} {C : Addr} {sp : Sp} (c : C8.Met X.prog X.w X.K X.mg X.base k C "__eq__" sp []) (hn : PySem.W.findIn X.K (.ref C) "__ne__" = some (some (.builtin "object.__ne__"))) (ho : PySem.W.mroIn X.K C (.type "object") = some true) (hr : Room j X.A) (hk : k + 1 ≤ j) : OpR X (compareOp .NotEq) (rNeO C sp) := by
  intro pins s σ H x y v u Q I rx ry h
  obtain ⟨a, dx, fs, b, dy, gs, rfl, rfl, ea, eb, q⟩ := h
  cases (show v = Value.ref a from rx)
  cases (show u = Value.ref b from ry)
  obtain ⟨f, fd, ps, ds, hc, hm, F', bd, d⟩ := c.ex
  cases d
  obtain ⟨mA, O, _⟩ := ins_get I.hok ea
  obtain ⟨od, J, _⟩ := O.look
  obtain ⟨mB, O', _⟩ := ins_get I.hok eb
  obtain ⟨od', J', _⟩ := O'.look
  have KX := I.kIn
  have rm : Room k X.A.in1 := (hr.mono hk).in1
  have cal : wpAny (model X.prog X.w) X.A.in1 (call (.ref f) [.ref a, .ref b]) (fun v s' => ∃ z, v = .bool z ∧ EP X pins σ Q (.bool (!z)) s') X.xe s := by
    have e0 : Env0 X.prog X.w X.K X.mg X.base X.A.in1 X.stack s H := by
      have e := I.env0
      exact ⟨e.frames, e.mod, e.bs, e.bsz, e.funs, e.frf, e.hok, e.bare⟩
    have hl := F'.len _ _ _ _ q
    have r2 : Vals [V.ref a, V.ref b] [Value.ref a, Value.ref b] := .cons rfl (.cons rfl .nil)
    refine wpAny_call (codeAny_mono (F'.run X.A.in1 X.stack s H ⟨[.ref a, .ref b], []⟩ [.ref a, .ref b] [.ref a, .ref b] _ E0 rm e0 (by
      have := bd s [.ref a, .ref b] I.kIn (by simpa using hl)
      simpa using this) r2 q) fun r s' hq => ?_)
    cases r with
    | error e => exact pass0 pins σ H s e s' I hq
    | ok fl =>
      cases fl with
      | ret w =>
        obtain ⟨z, H', I', rz, bz, ez, ex⟩ := I.after hq
        subst ez
        cases (show w = Value.bool bz from rz)
        exact ⟨bz, rfl, .bl (!bz), H', I', rfl, ex⟩
      | next => exact False.elim hq
      | brk => exact False.elim hq
      | cont => exact False.elim hq
  show wpAny (model X.prog X.w) X.A (richCompare .NotEq (.ref a) (.ref b)) (EP X pins σ Q) X.xe s
  unfold richCompare
  simp only [oneThing_ref]
  refine wpAny_holding (wpAny_bind (wpAny_cRoomFor hr.units0 ?_))
  refine wpAny_bind (J.type.here (wpAny_bind (J'.type.here ?_)))
  rw [show (Value.ref C != Value.ref C) = false from by simp]
  simp only [Bool.false_eq_true, if_false]
  refine wpAny_bind (wpAny_pure ?_)
  simp only [Bool.false_eq_true, if_false]
  have one : wpAny (model X.prog X.w) X.A (tryCompare (.ref a) (cmpInfo .NotEq).2.1 (.ref b)) (fun r s' => ∃ z, r = some z ∧ EP X pins σ Q z s') X.xe s := by
    unfold tryCompare
    refine wpAny_bind ?_
    simp only [callSpecialIfBound?, bindSpecialIfBound?]
    refine wpAny_holding (wpAny_bind (wpAny_bind (wpAny_bind (J.type.here ((PySem.W.looks_findIn KX hn).here ?_)))))
    simp only [on_slot.bind]
    refine wpAny_bind (wpAny_askSetting (wpAny_ite ?_))
    have cl : wpAny (model X.prog X.w) X.A (call (.builtin "object.__ne__") [.ref a, .ref b]) (fun v s' => ∃ z, v = .bool z ∧ EP X pins σ Q (.bool z) s') X.xe s := by
      refine wpAny_call (codeAny_call_builtin on_slot.plain F.cmpEntry_ne (PySem.W.check_slot F.cmpKind_ne F.cmpSplit_ne (J.type.andThen (PySem.W.looks_mroIn KX ho)) (F.cmpArgs_ne _ _) ?_))
      unfold Builtin.«object.__ne__»
      refine wpAny_bind (wpAny_pure ?_)
      refine wpAny_bind (wpAny_cRoomFor rm.units0 ?_)
      refine wpAny_bind (PySem.W.ifBound_K KX J hm.at_ hm.fn (thn cal fun v s' ⟨z, hz, hq⟩ => ?_))
      subst hz
      refine wpAny_bind (wpAny_truthy_bool ?_)
      exact wpAny_pure ⟨_, rfl, hq⟩
    have fin : wpAny (model X.prog X.w) X.A (call (.builtin "object.__ne__") ([.ref a] ++ [.ref b]) >>= fun v => pure (some v)) (fun r s' => wpAny (model X.prog X.w) X.A (match r with
        | some .notImplemented | none => pure none
        | some v => pure (some v)) (fun r s' => ∃ z, r = some z ∧ EP X pins σ Q z s') X.xe s') X.xe s := by
      refine wpAny_bind (thn cl fun v s' ⟨z, hz, hq⟩ => wpAny_pure ?_)
      subst hz
      exact wpAny_pure ⟨_, rfl, hq⟩
    split
    · exact wpAny_bind (wpAny_pure (wpAny_pure fin))
    · exact wpAny_tryCatch (wpAny_bind (wpAny_pure (wpAny_pure fin)))
  refine wpAny_bind (thn one fun r s' ⟨z, hz, h⟩ => ?_)
  subst hz
  exact wpAny_pure h
/-! ## text * n -/
theorem rep_fold (l : List Nat) : ∀ (n : Nat) (acc : Array Nat), (List.replicate n l.toArray).foldl (· ++ ·) acc = acc ++ (List.replicate n l).flatten.toArray
  | 0, acc => by simp
  | n + 1, acc => by rw [List.replicate_succ, List.foldl_cons, rep_fold l n, List.replicate_succ, List.flatten_cons]; simp
def rRepS : R2 := fun x y H Q => ∃ (l : List Nat) (n : Nat), x = .str (tx l) ∧ y = .int n ∧ n ≤ 1000 ∧ l.length ≤ 1000 ∧ Q (.str (tx (List.replicate n l).flatten)) H
theorem op_repS {X : Cx} : OpR X (binaryOp .Mult) rRepS := by
  intro pins s σ H x y v u Q I rx ry h
  obtain ⟨l, n, rfl, rfl, hn, hl, q⟩ := h
  obtain ⟨t, rfl⟩ := rx
  obtain ⟨t', rfl⟩ := ry
  refine P.mul_str (by simp; omega) (fun h1 _ => ?_) (fun _ _ => ?_) ?_
  · rw [tx_len]
    have : (1000 : Int) ≤ (2 ^ 63 - 1) / (n : Int) := by
      refine (Int.le_ediv_iff_mul_le (by omega)).mpr ?_
      omega
    omega
  · rw [tx_len]
    have : l.length * (n : Int).toNat ≤ 1000 * 1000 := Nat.mul_le_mul hl (by omega)
    have z : (1000 * 1000 : Nat) ≤ sizeLine := by decide
    exact decide_eq_false (by omega)
  · split
    · rename_i c
      have : n = 0 := by omega
      subst this
      exact ⟨by decide, .str (tx []), H, I.tok _, ⟨_, rfl⟩, q⟩
    · split
      · rename_i c1 c2
        refine ⟨.str (tx l), H, I, ⟨_, rfl⟩, ?_⟩
        have : (List.replicate n l).flatten = l := by
          rw [tx_len] at c2
          rcases Bool.or_eq_true_iff.mp c2 with e | e
          · have : n = 1 := by have := eq_of_beq e; omega
            subst this; simp
          · have : l = [] := List.length_eq_zero_iff.mp (eq_of_beq e)
            subst this; simp
        rw [this] at q
        exact q
      · have e : (⟨(List.replicate (n : Int).toNat (tx l).cps).foldl (· ++ ·) #[]⟩ : Str) = tx (List.replicate n l).flatten := by
          rw [Int.toNat_natCast]
          show (⟨(List.replicate n l.toArray).foldl (· ++ ·) #[]⟩ : Str) = _
          rw [rep_fold l n #[]]
          simp [tx]
        rw [e]
        refine ⟨?_, .str (tx (List.replicate n l).flatten), H, I.tok _, ⟨_, rfl⟩, q⟩
        rw [tx_len, List.length_flatten, List.map_replicate, List.sum_replicate_nat]
        have z : (1000 * 1000 : Nat) ≤ sizeLine := by decide
        exact Nat.le_trans (Nat.mul_le_mul hn hl) z
end Eb
set_option maxHeartbeats 4000000
namespace Tx
open PySem PySem.Spec PyProof.Rows L2 Eb
def top (i : Nat) : Stmt := PySem.Challenge.pw_everysettles_k14_whole_rows_in_order.main.body.getD i (.Pass ⟨0, 0, 0, 0⟩)
abbrev s__wall : Stmt := top 0
abbrev N__wall : List Str := ["k"]
theorem sc__wall : FnScope N__wall ["k"] (defScope s__wall) := ⟨rfl, rfl, rfl, by decide +kernel, rfl, by decide +kernel, by decide +kernel⟩
abbrev s_is_integer : Stmt := top 15
abbrev N_is_integer : List Str := ["value"]
theorem sc_is_integer : FnScope N_is_integer ["value"] (defScope s_is_integer) := ⟨rfl, rfl, rfl, by decide +kernel, rfl, by decide +kernel, by decide +kernel⟩
abbrev s_is_count : Stmt := top 16
abbrev N_is_count : List Str := ["value"]
theorem sc_is_count : FnScope N_is_count ["value"] (defScope s_is_count) := ⟨rfl, rfl, rfl, by decide +kernel, rfl, by decide +kernel, by decide +kernel⟩
abbrev s_is_list : Stmt := top 17
abbrev N_is_list : List Str := ["value"]
theorem sc_is_list : FnScope N_is_list ["value"] (defScope s_is_list) := ⟨rfl, rfl, rfl, by decide +kernel, rfl, by decide +kernel, by decide +kernel⟩
abbrev s_is_character : Stmt := top 18
abbrev N_is_character : List Str := ["sign"]
theorem sc_is_character : FnScope N_is_character ["sign"] (defScope s_is_character) := ⟨rfl, rfl, rfl, by decide +kernel, rfl, by decide +kernel, by decide +kernel⟩
abbrev s_is_word : Stmt := top 19
abbrev N_is_word : List Str := ["value", "sign"]
theorem sc_is_word : FnScope N_is_word ["value"] (defScope s_is_word) := ⟨rfl, rfl, rfl, by decide +kernel, rfl, by decide +kernel, by decide +kernel⟩
abbrev s_is_pattern_text : Stmt := top 20
abbrev N_is_pattern_text : List Str := ["value", "others", "sign"]
theorem sc_is_pattern_text : FnScope N_is_pattern_text ["value"] (defScope s_is_pattern_text) := ⟨rfl, rfl, rfl, by decide +kernel, rfl, by decide +kernel, by decide +kernel⟩
abbrev s_Pattern_init : Stmt := inClass (top 21) 0
abbrev N_Pattern_init : List Str := ["self", "text", "place", "at", "sign"]
theorem sc_Pattern_init : FnScope N_Pattern_init ["self", "text"] (defScope s_Pattern_init) := ⟨rfl, rfl, rfl, by decide +kernel, rfl, by decide +kernel, by decide +kernel⟩
abbrev s_Pattern_filled : Stmt := inClass (top 21) 1
abbrev N_Pattern_filled : List Str := ["self", "number"]
theorem sc_Pattern_filled : FnScope N_Pattern_filled ["self", "number"] (defScope s_Pattern_filled) := ⟨rfl, rfl, rfl, by decide +kernel, rfl, by decide +kernel, by decide +kernel⟩
abbrev s_Pattern_width : Stmt := inClass (top 21) 2
abbrev N_Pattern_width : List Str := ["self", "number"]
theorem sc_Pattern_width : FnScope N_Pattern_width ["self", "number"] (defScope s_Pattern_width) := ⟨rfl, rfl, rfl, by decide +kernel, rfl, by decide +kernel, by decide +kernel⟩
abbrev s_Pattern_want_room : Stmt := inClass (top 21) 3
abbrev N_Pattern_want_room : List Str := ["self", "many"]
theorem sc_Pattern_want_room : FnScope N_Pattern_want_room ["self", "many"] (defScope s_Pattern_want_room) := ⟨rfl, rfl, rfl, by decide +kernel, rfl, by decide +kernel, by decide +kernel⟩
abbrev s_Pattern_add : Stmt := inClass (top 21) 4
abbrev N_Pattern_add : List Str := ["self", "other"]
theorem sc_Pattern_add : FnScope N_Pattern_add ["self", "other"] (defScope s_Pattern_add) := ⟨rfl, rfl, rfl, by decide +kernel, rfl, by decide +kernel, by decide +kernel⟩
abbrev s_Pattern_radd : Stmt := inClass (top 21) 5
abbrev N_Pattern_radd : List Str := ["self", "other"]
theorem sc_Pattern_radd : FnScope N_Pattern_radd ["self", "other"] (defScope s_Pattern_radd) := ⟨rfl, rfl, rfl, by decide +kernel, rfl, by decide +kernel, by decide +kernel⟩
abbrev s_Pattern_len : Stmt := inClass (top 21) 6
abbrev N_Pattern_len : List Str := ["self"]
theorem sc_Pattern_len : FnScope N_Pattern_len ["self"] (defScope s_Pattern_len) := ⟨rfl, rfl, rfl, by decide +kernel, rfl, by decide +kernel, by decide +kernel⟩
abbrev s_Pattern_str : Stmt := inClass (top 21) 7
abbrev N_Pattern_str : List Str := ["self"]
theorem sc_Pattern_str : FnScope N_Pattern_str ["self"] (defScope s_Pattern_str) := ⟨rfl, rfl, rfl, by decide +kernel, rfl, by decide +kernel, by decide +kernel⟩
abbrev s_Pattern_repr : Stmt := inClass (top 21) 8
abbrev N_Pattern_repr : List Str := ["self"]
theorem sc_Pattern_repr : FnScope N_Pattern_repr ["self"] (defScope s_Pattern_repr) := ⟨rfl, rfl, rfl, by decide +kernel, rfl, by decide +kernel, by decide +kernel⟩
abbrev s_Pattern_eq : Stmt := inClass (top 21) 9
abbrev N_Pattern_eq : List Str := ["self", "other"]
theorem sc_Pattern_eq : FnScope N_Pattern_eq ["self", "other"] (defScope s_Pattern_eq) := ⟨rfl, rfl, rfl, by decide +kernel, rfl, by decide +kernel, by decide +kernel⟩
abbrev s_is_far : Stmt := top 24
abbrev N_is_far : List Str := ["value"]
theorem sc_is_far : FnScope N_is_far ["value"] (defScope s_is_far) := ⟨rfl, rfl, rfl, by decide +kernel, rfl, by decide +kernel, by decide +kernel⟩
abbrev s_want_distance : Stmt := top 25
abbrev N_want_distance : List Str := ["value"]
theorem sc_want_distance : FnScope N_want_distance ["value"] (defScope s_want_distance) := ⟨rfl, rfl, rfl, by decide +kernel, rfl, by decide +kernel, by decide +kernel⟩
abbrev s_Row_init : Stmt := inClass (top 26) 1
abbrev N_Row_init : List Str := ["self", "words", "far", "word"]
theorem sc_Row_init : FnScope N_Row_init ["self", "words", "far"] (defScope s_Row_init) := ⟨rfl, rfl, rfl, by decide +kernel, rfl, by decide +kernel, by decide +kernel⟩
abbrev s_Row_set_far : Stmt := inClass (top 26) 4
abbrev N_Row_set_far : List Str := ["self", "value"]
theorem sc_Row_set_far : FnScope N_Row_set_far ["self", "value"] (defScope s_Row_set_far) := ⟨rfl, rfl, rfl, by decide +kernel, rfl, by decide +kernel, by decide +kernel⟩
abbrev s_Row_word_at : Stmt := inClass (top 26) 5
abbrev N_Row_word_at : List Str := ["self", "distance"]
theorem sc_Row_word_at : FnScope N_Row_word_at ["self", "distance"] (defScope s_Row_word_at) := ⟨rfl, rfl, rfl, by decide +kernel, rfl, by decide +kernel, by decide +kernel⟩
abbrev s_Row_has_pattern : Stmt := inClass (top 26) 6
abbrev N_Row_has_pattern : List Str := ["self"]
theorem sc_Row_has_pattern : FnScope N_Row_has_pattern ["self"] (defScope s_Row_has_pattern) := ⟨rfl, rfl, rfl, by decide +kernel, rfl, by decide +kernel, by decide +kernel⟩
abbrev s_Row_width : Stmt := inClass (top 26) 7
abbrev N_Row_width : List Str := ["self", "d"]
theorem sc_Row_width : FnScope N_Row_width ["self", "d"] (defScope s_Row_width) := ⟨rfl, rfl, rfl, by decide +kernel, rfl, by decide +kernel, by decide +kernel⟩
abbrev s_Row_told : Stmt := inClass (top 26) 8
abbrev N_Row_told : List Str := ["self"]
theorem sc_Row_told : FnScope N_Row_told ["self"] (defScope s_Row_told) := ⟨rfl, rfl, rfl, by decide +kernel, rfl, by decide +kernel, by decide +kernel⟩
abbrev s_Row_widths : Stmt := inClass (top 26) 9
abbrev N_Row_widths : List Str := ["self", "distance"]
theorem sc_Row_widths : FnScope N_Row_widths ["self"] (defScope s_Row_widths) := ⟨rfl, rfl, rfl, by decide +kernel, rfl, by decide +kernel, by decide +kernel⟩
abbrev s_Row_forward_fault : Stmt := inClass (top 26) 10
abbrev N_Row_forward_fault : List Str := ["self"]
theorem sc_Row_forward_fault : FnScope N_Row_forward_fault ["self"] (defScope s_Row_forward_fault) := ⟨rfl, rfl, rfl, by decide +kernel, rfl, by decide +kernel, by decide +kernel⟩
abbrev s_Row_backward_fault : Stmt := inClass (top 26) 11
abbrev N_Row_backward_fault : List Str := ["self"]
theorem sc_Row_backward_fault : FnScope N_Row_backward_fault ["self"] (defScope s_Row_backward_fault) := ⟨rfl, rfl, rfl, by decide +kernel, rfl, by decide +kernel, by decide +kernel⟩
abbrev s_Row_copy : Stmt := inClass (top 26) 12
abbrev N_Row_copy : List Str := ["self"]
theorem sc_Row_copy : FnScope N_Row_copy ["self"] (defScope s_Row_copy) := ⟨rfl, rfl, rfl, by decide +kernel, rfl, by decide +kernel, by decide +kernel⟩
abbrev s_Row_is_narrow_beside : Stmt := inClass (top 26) 13
abbrev N_Row_is_narrow_beside : List Str := ["self", "other", "most", "distance"]
theorem sc_Row_is_narrow_beside : FnScope N_Row_is_narrow_beside ["self", "other"] (defScope s_Row_is_narrow_beside) := ⟨rfl, rfl, rfl, by decide +kernel, rfl, by decide +kernel, by decide +kernel⟩
abbrev s_Row_getitem : Stmt := inClass (top 26) 14
abbrev N_Row_getitem : List Str := ["self", "at"]
theorem sc_Row_getitem : FnScope N_Row_getitem ["self", "at"] (defScope s_Row_getitem) := ⟨rfl, rfl, rfl, by decide +kernel, rfl, by decide +kernel, by decide +kernel⟩
abbrev s_Row_setitem : Stmt := inClass (top 26) 15
abbrev N_Row_setitem : List Str := ["self", "at", "worth"]
theorem sc_Row_setitem : FnScope N_Row_setitem ["self", "at", "worth"] (defScope s_Row_setitem) := ⟨rfl, rfl, rfl, by decide +kernel, rfl, by decide +kernel, by decide +kernel⟩
abbrev s_Row_iter : Stmt := inClass (top 26) 16
abbrev N_Row_iter : List Str := ["self"]
theorem sc_Row_iter : FnScope N_Row_iter ["self"] (defScope s_Row_iter) := ⟨rfl, rfl, rfl, by decide +kernel, rfl, by decide +kernel, by decide +kernel⟩
abbrev s_Row_len : Stmt := inClass (top 26) 17
abbrev N_Row_len : List Str := ["self"]
theorem sc_Row_len : FnScope N_Row_len ["self"] (defScope s_Row_len) := ⟨rfl, rfl, rfl, by decide +kernel, rfl, by decide +kernel, by decide +kernel⟩
abbrev s_Row_eq : Stmt := inClass (top 26) 18
abbrev N_Row_eq : List Str := ["self", "other"]
theorem sc_Row_eq : FnScope N_Row_eq ["self", "other"] (defScope s_Row_eq) := ⟨rfl, rfl, rfl, by decide +kernel, rfl, by decide +kernel, by decide +kernel⟩
abbrev s_Row_le : Stmt := inClass (top 26) 19
abbrev N_Row_le : List Str := ["self", "other"]
theorem sc_Row_le : FnScope N_Row_le ["self", "other"] (defScope s_Row_le) := ⟨rfl, rfl, rfl, by decide +kernel, rfl, by decide +kernel, by decide +kernel⟩
abbrev s_Row_lt : Stmt := inClass (top 26) 20
abbrev N_Row_lt : List Str := ["self", "other"]
theorem sc_Row_lt : FnScope N_Row_lt ["self", "other"] (defScope s_Row_lt) := ⟨rfl, rfl, rfl, by decide +kernel, rfl, by decide +kernel, by decide +kernel⟩
abbrev s__law_rng : Stmt := top 28
abbrev N__law_rng : List Str := ["_law_script", "_law_k", "_law_cell"]
theorem sc__law_rng : FnScope N__law_rng ["_law_script", "_law_k"] (defScope s__law_rng) := ⟨rfl, rfl, rfl, by decide +kernel, rfl, by decide +kernel, by decide +kernel⟩
abbrev s__law_draw : Stmt := top 29
abbrev N__law_draw : List Str := ["_law_rng_here", "_law_sides", "_law_digit"]
theorem sc__law_draw : FnScope N__law_draw ["_law_rng_here", "_law_sides"] (defScope s__law_draw) := ⟨rfl, rfl, rfl, by decide +kernel, rfl, by decide +kernel, by decide +kernel⟩
abbrev s__law_choice : Stmt := top 30
abbrev N__law_choice : List Str := ["_law_rng_here", "_law_some"]
theorem sc__law_choice : FnScope N__law_choice ["_law_rng_here", "_law_some"] (defScope s__law_choice) := ⟨rfl, rfl, rfl, by decide +kernel, rfl, by decide +kernel, by decide +kernel⟩
abbrev s__law_word : Stmt := top 31
abbrev N__law_word : List Str := ["_law_rng_here", "_law_size", "_law_signs", "_law_turn"]
theorem sc__law_word : FnScope N__law_word ["_law_rng_here", "_law_size"] (defScope s__law_word) := ⟨rfl, rfl, rfl, by decide +kernel, rfl, by decide +kernel, by decide +kernel⟩
abbrev s__law_any_word : Stmt := top 32
abbrev N__law_any_word : List Str := ["_law_rng_here"]
theorem sc__law_any_word : FnScope N__law_any_word ["_law_rng_here"] (defScope s__law_any_word) := ⟨rfl, rfl, rfl, by decide +kernel, rfl, by decide +kernel, by decide +kernel⟩
abbrev s__law_pattern_text : Stmt := top 33
abbrev N__law_pattern_text : List Str := ["_law_rng_here", "_law_word_here", "_law_at_here"]
theorem sc__law_pattern_text : FnScope N__law_pattern_text ["_law_rng_here"] (defScope s__law_pattern_text) := ⟨rfl, rfl, rfl, by decide +kernel, rfl, by decide +kernel, by decide +kernel⟩
abbrev s__law_plan : Stmt := top 34
abbrev N__law_plan : List Str := ["_law_rng_here", "_law_terms", "_law_turn"]
theorem sc__law_plan : FnScope N__law_plan ["_law_rng_here"] (defScope s__law_plan) := ⟨rfl, rfl, rfl, by decide +kernel, rfl, by decide +kernel, by decide +kernel⟩
abbrev s__law_far : Stmt := top 35
abbrev N__law_far : List Str := ["_law_spelt"]
theorem sc__law_far : FnScope N__law_far ["_law_spelt"] (defScope s__law_far) := ⟨rfl, rfl, rfl, by decide +kernel, rfl, by decide +kernel, by decide +kernel⟩
abbrev s__law_real : Stmt := top 36
abbrev N__law_real : List Str := ["_law_plan_here"]
theorem sc__law_real : FnScope N__law_real ["_law_plan_here"] (defScope s__law_real) := ⟨rfl, rfl, rfl, by decide +kernel, rfl, by decide +kernel, by decide +kernel⟩
abbrev s__law_at : Stmt := top 37
abbrev N__law_at : List Str := ["_law_plan_here", "_law_distance"]
theorem sc__law_at : FnScope N__law_at ["_law_plan_here", "_law_distance"] (defScope s__law_at) := ⟨rfl, rfl, rfl, by decide +kernel, rfl, by decide +kernel, by decide +kernel⟩
abbrev s__law_widths : Stmt := top 38
abbrev N__law_widths : List Str := ["_law_plan_here", "_law_distances", "_law_power", "_law_turn", "_law_distance"]
theorem sc__law_widths : FnScope N__law_widths ["_law_plan_here"] (defScope s__law_widths) := ⟨rfl, rfl, rfl, by decide +kernel, rfl, by decide +kernel, by decide +kernel⟩
abbrev s__law_is_below : Stmt := top 39
abbrev N__law_is_below : List Str := ["_law_one", "_law_other", "_law_low", "_law_high"]
theorem sc__law_is_below : FnScope N__law_is_below ["_law_one", "_law_other"] (defScope s__law_is_below) := ⟨rfl, rfl, rfl, by decide +kernel, rfl, by decide +kernel, by decide +kernel⟩
abbrev s__law_wider : Stmt := top 40
abbrev N__law_wider : List Str := ["_law_rng_here", "_law_plan_here", "_law_terms", "_law_beyond", "_law_at_here", "_law_way"]
theorem sc__law_wider : FnScope N__law_wider ["_law_rng_here", "_law_plan_here"] (defScope s__law_wider) := ⟨rfl, rfl, rfl, by decide +kernel, rfl, by decide +kernel, by decide +kernel⟩
abbrev s__law_pair_right : Stmt := top 41
abbrev N__law_pair_right : List Str := ["_law_one", "_law_other", "_law_near", "_law_beyond", "_law_due", "_law_back", "_law_told"]
theorem sc__law_pair_right : FnScope N__law_pair_right ["_law_one", "_law_other"] (defScope s__law_pair_right) := ⟨rfl, rfl, rfl, by decide +kernel, rfl, by decide +kernel, by decide +kernel⟩
abbrev s__law_changed_right : Stmt := top 42
abbrev N__law_changed_right : List Str := ["_law_rng_here", "_law_one", "_law_other", "_law_near", "_law_beyond", "_law_at_here", "_law_before", "_law_word_here", "_law_terms", "_law_distance", "_law_later", "_law_olds", "_law_spelt"]
theorem sc__law_changed_right : FnScope N__law_changed_right ["_law_rng_here", "_law_one", "_law_other"] (defScope s__law_changed_right) := ⟨rfl, rfl, rfl, by decide +kernel, rfl, by decide +kernel, by decide +kernel⟩
abbrev s__law_told_more_right : Stmt := top 43
abbrev N__law_told_more_right : List Str := ["_law_plan_here", "_law_more", "_law_near", "_law_beyond", "_law_told"]
theorem sc__law_told_more_right : FnScope N__law_told_more_right ["_law_plan_here"] (defScope s__law_told_more_right) := ⟨rfl, rfl, rfl, by decide +kernel, rfl, by decide +kernel, by decide +kernel⟩
abbrev s__law_right : Stmt := top 44
abbrev N__law_right : List Str := ["_law_rng_here", "_law_first", "_law_third", "_law_second", "_law_one", "_law_other"]
theorem sc__law_right : FnScope N__law_right ["_law_rng_here"] (defScope s__law_right) := ⟨rfl, rfl, rfl, by decide +kernel, rfl, by decide +kernel, by decide +kernel⟩
abbrev s_law : Stmt := top 45
abbrev N_law : List Str := ["_law_script", "_law_k"]
theorem sc_law : FnScope N_law ["_law_script"] (defScope s_law) := ⟨rfl, rfl, rfl, by decide +kernel, rfl, by decide +kernel, by decide +kernel⟩
structure TX (K : PySem.W.Frag) (mg : Str → Option Value) : Prop where
  d__wall : ∃ fd, FunD K "_wall" "_wall" (defArgs s__wall) (defBody s__wall) (defScope s__wall) ([].map (He.Dv.v K)) [] (He.ga K "_wall") fd
  d_is_integer : ∃ fd, FunD K "is_integer" "is_integer" (defArgs s_is_integer) (defBody s_is_integer) (defScope s_is_integer) ([].map (He.Dv.v K)) [] (He.ga K "is_integer") fd
  d_is_count : ∃ fd, FunD K "is_count" "is_count" (defArgs s_is_count) (defBody s_is_count) (defScope s_is_count) ([].map (He.Dv.v K)) [] (He.ga K "is_count") fd
  d_is_list : ∃ fd, FunD K "is_list" "is_list" (defArgs s_is_list) (defBody s_is_list) (defScope s_is_list) ([].map (He.Dv.v K)) [] (He.ga K "is_list") fd
  d_is_character : ∃ fd, FunD K "is_character" "is_character" (defArgs s_is_character) (defBody s_is_character) (defScope s_is_character) ([].map (He.Dv.v K)) [] (He.ga K "is_character") fd
  d_is_word : ∃ fd, FunD K "is_word" "is_word" (defArgs s_is_word) (defBody s_is_word) (defScope s_is_word) ([].map (He.Dv.v K)) [] (He.ga K "is_word") fd
  d_is_pattern_text : ∃ fd, FunD K "is_pattern_text" "is_pattern_text" (defArgs s_is_pattern_text) (defBody s_is_pattern_text) (defScope s_is_pattern_text) ([].map (He.Dv.v K)) [] (He.ga K "is_pattern_text") fd
  d_Pattern_init : ∃ fd, FunD K "__init__" "Pattern.__init__" (defArgs s_Pattern_init) (defBody s_Pattern_init) (defScope s_Pattern_init) ([].map (He.Dv.v K)) [] (He.ma K (He.ga K "Pattern") "__init__") fd
  d_Pattern_filled : ∃ fd, FunD K "filled" "Pattern.filled" (defArgs s_Pattern_filled) (defBody s_Pattern_filled) (defScope s_Pattern_filled) ([].map (He.Dv.v K)) [] (He.ma K (He.ga K "Pattern") "filled") fd
  d_Pattern_width : ∃ fd, FunD K "width" "Pattern.width" (defArgs s_Pattern_width) (defBody s_Pattern_width) (defScope s_Pattern_width) ([].map (He.Dv.v K)) [] (He.ma K (He.ga K "Pattern") "width") fd
  d_Pattern_want_room : ∃ fd, FunD K "want_room" "Pattern.want_room" (defArgs s_Pattern_want_room) (defBody s_Pattern_want_room) (defScope s_Pattern_want_room) ([].map (He.Dv.v K)) [] (He.ma K (He.ga K "Pattern") "want_room") fd
  d_Pattern_add : ∃ fd, FunD K "__add__" "Pattern.__add__" (defArgs s_Pattern_add) (defBody s_Pattern_add) (defScope s_Pattern_add) ([].map (He.Dv.v K)) [] (He.ma K (He.ga K "Pattern") "__add__") fd
  d_Pattern_radd : ∃ fd, FunD K "__radd__" "Pattern.__radd__" (defArgs s_Pattern_radd) (defBody s_Pattern_radd) (defScope s_Pattern_radd) ([].map (He.Dv.v K)) [] (He.ma K (He.ga K "Pattern") "__radd__") fd
  d_Pattern_len : ∃ fd, FunD K "__len__" "Pattern.__len__" (defArgs s_Pattern_len) (defBody s_Pattern_len) (defScope s_Pattern_len) ([].map (He.Dv.v K)) [] (He.ma K (He.ga K "Pattern") "__len__") fd
  d_Pattern_str : ∃ fd, FunD K "__str__" "Pattern.__str__" (defArgs s_Pattern_str) (defBody s_Pattern_str) (defScope s_Pattern_str) ([].map (He.Dv.v K)) [] (He.ma K (He.ga K "Pattern") "__str__") fd
  d_Pattern_repr : ∃ fd, FunD K "__repr__" "Pattern.__repr__" (defArgs s_Pattern_repr) (defBody s_Pattern_repr) (defScope s_Pattern_repr) ([].map (He.Dv.v K)) [] (He.ma K (He.ga K "Pattern") "__repr__") fd
  d_Pattern_eq : ∃ fd, FunD K "__eq__" "Pattern.__eq__" (defArgs s_Pattern_eq) (defBody s_Pattern_eq) (defScope s_Pattern_eq) ([].map (He.Dv.v K)) [] (He.ma K (He.ga K "Pattern") "__eq__") fd
  d_is_far : ∃ fd, FunD K "is_far" "is_far" (defArgs s_is_far) (defBody s_is_far) (defScope s_is_far) ([].map (He.Dv.v K)) [] (He.ga K "is_far") fd
  d_want_distance : ∃ fd, FunD K "want_distance" "want_distance" (defArgs s_want_distance) (defBody s_want_distance) (defScope s_want_distance) ([].map (He.Dv.v K)) [] (He.ga K "want_distance") fd
  d_Row_init : ∃ fd, FunD K "__init__" "Row.__init__" (defArgs s_Row_init) (defBody s_Row_init) (defScope s_Row_init) ([.adr (He.dflAt ("Row", some "__init__") 0), .str ""].map (He.Dv.v K)) [] (He.ma K (He.ga K "Row") "__init__") fd
  d_Row_set_far : ∃ fd, FunD K "set_far" "Row.set_far" (defArgs s_Row_set_far) (defBody s_Row_set_far) (defScope s_Row_set_far) ([].map (He.Dv.v K)) [] (He.ma K (He.ga K "Row") "set_far") fd
  d_Row_word_at : ∃ fd, FunD K "word_at" "Row.word_at" (defArgs s_Row_word_at) (defBody s_Row_word_at) (defScope s_Row_word_at) ([].map (He.Dv.v K)) [] (He.ma K (He.ga K "Row") "word_at") fd
  d_Row_has_pattern : ∃ fd, FunD K "has_pattern" "Row.has_pattern" (defArgs s_Row_has_pattern) (defBody s_Row_has_pattern) (defScope s_Row_has_pattern) ([].map (He.Dv.v K)) [] (He.ma K (He.ga K "Row") "has_pattern") fd
  d_Row_width : ∃ fd, FunD K "width" "Row.width" (defArgs s_Row_width) (defBody s_Row_width) (defScope s_Row_width) ([].map (He.Dv.v K)) [] (He.ma K (He.ga K "Row") "width") fd
  d_Row_told : ∃ fd, FunD K "told" "Row.told" (defArgs s_Row_told) (defBody s_Row_told) (defScope s_Row_told) ([].map (He.Dv.v K)) [] (He.ma K (He.ga K "Row") "told") fd
  d_Row_widths : ∃ fd, FunD K "widths" "Row.widths" (defArgs s_Row_widths) (defBody s_Row_widths) (defScope s_Row_widths) ([].map (He.Dv.v K)) [] (He.ma K (He.ga K "Row") "widths") fd
  d_Row_forward_fault : ∃ fd, FunD K "forward_fault" "Row.forward_fault" (defArgs s_Row_forward_fault) (defBody s_Row_forward_fault) (defScope s_Row_forward_fault) ([].map (He.Dv.v K)) [] (He.ma K (He.ga K "Row") "forward_fault") fd
  d_Row_backward_fault : ∃ fd, FunD K "backward_fault" "Row.backward_fault" (defArgs s_Row_backward_fault) (defBody s_Row_backward_fault) (defScope s_Row_backward_fault) ([].map (He.Dv.v K)) [] (He.ma K (He.ga K "Row") "backward_fault") fd
  d_Row_copy : ∃ fd, FunD K "copy" "Row.copy" (defArgs s_Row_copy) (defBody s_Row_copy) (defScope s_Row_copy) ([].map (He.Dv.v K)) [] (He.ma K (He.ga K "Row") "copy") fd
  d_Row_is_narrow_beside : ∃ fd, FunD K "is_narrow_beside" "Row.is_narrow_beside" (defArgs s_Row_is_narrow_beside) (defBody s_Row_is_narrow_beside) (defScope s_Row_is_narrow_beside) ([].map (He.Dv.v K)) [] (He.ma K (He.ga K "Row") "is_narrow_beside") fd
  d_Row_getitem : ∃ fd, FunD K "__getitem__" "Row.__getitem__" (defArgs s_Row_getitem) (defBody s_Row_getitem) (defScope s_Row_getitem) ([].map (He.Dv.v K)) [] (He.ma K (He.ga K "Row") "__getitem__") fd
  d_Row_setitem : ∃ fd, FunD K "__setitem__" "Row.__setitem__" (defArgs s_Row_setitem) (defBody s_Row_setitem) (defScope s_Row_setitem) ([].map (He.Dv.v K)) [] (He.ma K (He.ga K "Row") "__setitem__") fd
  d_Row_iter : ∃ fd, FunD K "__iter__" "Row.__iter__" (defArgs s_Row_iter) (defBody s_Row_iter) (defScope s_Row_iter) ([].map (He.Dv.v K)) [] (He.ma K (He.ga K "Row") "__iter__") fd
  d_Row_len : ∃ fd, FunD K "__len__" "Row.__len__" (defArgs s_Row_len) (defBody s_Row_len) (defScope s_Row_len) ([].map (He.Dv.v K)) [] (He.ma K (He.ga K "Row") "__len__") fd
  d_Row_eq : ∃ fd, FunD K "__eq__" "Row.__eq__" (defArgs s_Row_eq) (defBody s_Row_eq) (defScope s_Row_eq) ([].map (He.Dv.v K)) [] (He.ma K (He.ga K "Row") "__eq__") fd
  d_Row_le : ∃ fd, FunD K "__le__" "Row.__le__" (defArgs s_Row_le) (defBody s_Row_le) (defScope s_Row_le) ([].map (He.Dv.v K)) [] (He.ma K (He.ga K "Row") "__le__") fd
  d_Row_lt : ∃ fd, FunD K "__lt__" "Row.__lt__" (defArgs s_Row_lt) (defBody s_Row_lt) (defScope s_Row_lt) ([].map (He.Dv.v K)) [] (He.ma K (He.ga K "Row") "__lt__") fd
  d__law_rng : ∃ fd, FunD K "_law_rng" "_law_rng" (defArgs s__law_rng) (defBody s__law_rng) (defScope s__law_rng) ([].map (He.Dv.v K)) [] (He.ga K "_law_rng") fd
  d__law_draw : ∃ fd, FunD K "_law_draw" "_law_draw" (defArgs s__law_draw) (defBody s__law_draw) (defScope s__law_draw) ([].map (He.Dv.v K)) [] (He.ga K "_law_draw") fd
  d__law_choice : ∃ fd, FunD K "_law_choice" "_law_choice" (defArgs s__law_choice) (defBody s__law_choice) (defScope s__law_choice) ([].map (He.Dv.v K)) [] (He.ga K "_law_choice") fd
  d__law_word : ∃ fd, FunD K "_law_word" "_law_word" (defArgs s__law_word) (defBody s__law_word) (defScope s__law_word) ([].map (He.Dv.v K)) [] (He.ga K "_law_word") fd
  d__law_any_word : ∃ fd, FunD K "_law_any_word" "_law_any_word" (defArgs s__law_any_word) (defBody s__law_any_word) (defScope s__law_any_word) ([].map (He.Dv.v K)) [] (He.ga K "_law_any_word") fd
  d__law_pattern_text : ∃ fd, FunD K "_law_pattern_text" "_law_pattern_text" (defArgs s__law_pattern_text) (defBody s__law_pattern_text) (defScope s__law_pattern_text) ([].map (He.Dv.v K)) [] (He.ga K "_law_pattern_text") fd
  d__law_plan : ∃ fd, FunD K "_law_plan" "_law_plan" (defArgs s__law_plan) (defBody s__law_plan) (defScope s__law_plan) ([].map (He.Dv.v K)) [] (He.ga K "_law_plan") fd
  d__law_far : ∃ fd, FunD K "_law_far" "_law_far" (defArgs s__law_far) (defBody s__law_far) (defScope s__law_far) ([].map (He.Dv.v K)) [] (He.ga K "_law_far") fd
  d__law_real : ∃ fd, FunD K "_law_real" "_law_real" (defArgs s__law_real) (defBody s__law_real) (defScope s__law_real) ([].map (He.Dv.v K)) [] (He.ga K "_law_real") fd
  d__law_at : ∃ fd, FunD K "_law_at" "_law_at" (defArgs s__law_at) (defBody s__law_at) (defScope s__law_at) ([].map (He.Dv.v K)) [] (He.ga K "_law_at") fd
  d__law_widths : ∃ fd, FunD K "_law_widths" "_law_widths" (defArgs s__law_widths) (defBody s__law_widths) (defScope s__law_widths) ([].map (He.Dv.v K)) [] (He.ga K "_law_widths") fd
  d__law_is_below : ∃ fd, FunD K "_law_is_below" "_law_is_below" (defArgs s__law_is_below) (defBody s__law_is_below) (defScope s__law_is_below) ([].map (He.Dv.v K)) [] (He.ga K "_law_is_below") fd
  d__law_wider : ∃ fd, FunD K "_law_wider" "_law_wider" (defArgs s__law_wider) (defBody s__law_wider) (defScope s__law_wider) ([].map (He.Dv.v K)) [] (He.ga K "_law_wider") fd
  d__law_pair_right : ∃ fd, FunD K "_law_pair_right" "_law_pair_right" (defArgs s__law_pair_right) (defBody s__law_pair_right) (defScope s__law_pair_right) ([].map (He.Dv.v K)) [] (He.ga K "_law_pair_right") fd
  d__law_changed_right : ∃ fd, FunD K "_law_changed_right" "_law_changed_right" (defArgs s__law_changed_right) (defBody s__law_changed_right) (defScope s__law_changed_right) ([].map (He.Dv.v K)) [] (He.ga K "_law_changed_right") fd
  d__law_told_more_right : ∃ fd, FunD K "_law_told_more_right" "_law_told_more_right" (defArgs s__law_told_more_right) (defBody s__law_told_more_right) (defScope s__law_told_more_right) ([].map (He.Dv.v K)) [] (He.ga K "_law_told_more_right") fd
  d__law_right : ∃ fd, FunD K "_law_right" "_law_right" (defArgs s__law_right) (defBody s__law_right) (defScope s__law_right) ([].map (He.Dv.v K)) [] (He.ga K "_law_right") fd
  d_law : ∃ fd, FunD K "law" "law" (defArgs s_law) (defBody s_law) (defScope s_law) ([].map (He.Dv.v K)) [] (He.ga K "law") fd
  g__wall : mg "_wall" = some (.ref (He.ga K "_wall"))
  g_is_integer : mg "is_integer" = some (.ref (He.ga K "is_integer"))
  g_is_count : mg "is_count" = some (.ref (He.ga K "is_count"))
  g_is_list : mg "is_list" = some (.ref (He.ga K "is_list"))
  g_is_character : mg "is_character" = some (.ref (He.ga K "is_character"))
  g_is_word : mg "is_word" = some (.ref (He.ga K "is_word"))
  g_is_pattern_text : mg "is_pattern_text" = some (.ref (He.ga K "is_pattern_text"))
  g_is_far : mg "is_far" = some (.ref (He.ga K "is_far"))
  g_want_distance : mg "want_distance" = some (.ref (He.ga K "want_distance"))
  g__law_rng : mg "_law_rng" = some (.ref (He.ga K "_law_rng"))
  g__law_draw : mg "_law_draw" = some (.ref (He.ga K "_law_draw"))
  g__law_choice : mg "_law_choice" = some (.ref (He.ga K "_law_choice"))
  g__law_word : mg "_law_word" = some (.ref (He.ga K "_law_word"))
  g__law_any_word : mg "_law_any_word" = some (.ref (He.ga K "_law_any_word"))
  g__law_pattern_text : mg "_law_pattern_text" = some (.ref (He.ga K "_law_pattern_text"))
  g__law_plan : mg "_law_plan" = some (.ref (He.ga K "_law_plan"))
  g__law_far : mg "_law_far" = some (.ref (He.ga K "_law_far"))
  g__law_real : mg "_law_real" = some (.ref (He.ga K "_law_real"))
  g__law_at : mg "_law_at" = some (.ref (He.ga K "_law_at"))
  g__law_widths : mg "_law_widths" = some (.ref (He.ga K "_law_widths"))
  g__law_is_below : mg "_law_is_below" = some (.ref (He.ga K "_law_is_below"))
  g__law_wider : mg "_law_wider" = some (.ref (He.ga K "_law_wider"))
  g__law_pair_right : mg "_law_pair_right" = some (.ref (He.ga K "_law_pair_right"))
  g__law_changed_right : mg "_law_changed_right" = some (.ref (He.ga K "_law_changed_right"))
  g__law_told_more_right : mg "_law_told_more_right" = some (.ref (He.ga K "_law_told_more_right"))
  g__law_right : mg "_law_right" = some (.ref (He.ga K "_law_right"))
  g_law : mg "law" = some (.ref (He.ga K "law"))
  g_Pattern : mg "Pattern" = some (.ref (He.ga K "Pattern"))
  c_Pattern : Cls K (He.ga K "Pattern")
  mk_Pattern : Mk K (He.ga K "Pattern") (He.ma K (He.ga K "Pattern") "__init__")
  ty_Pattern : insB "Pattern" K = true
  ss_Pattern : PySem.W.subIn K (.ref (He.ga K "Pattern")) (.type "str") = some false
  nn_Pattern : PySem.W.findIn K (.ref (He.ga K "Pattern")) "__ne__" = some (some (.builtin "object.__ne__"))
  mo_Pattern : PySem.W.mroIn K (He.ga K "Pattern") (.type "object") = some true
  na_Pattern_own_ahead : NoAttr K (He.ga K "Pattern") "own_ahead"
  na_Pattern_own_behind : NoAttr K (He.ga K "Pattern") "own_behind"
  na_Pattern_own_text : NoAttr K (He.ga K "Pattern") "own_text"
  is_str_Pattern : PySem.W.kitOne K (.type "str") (.ref (He.ga K "Pattern")) = some false
  is_int_Pattern : PySem.W.kitOne K (.type "int") (.ref (He.ga K "Pattern")) = some false
  is_bool_Pattern : PySem.W.kitOne K (.type "bool") (.ref (He.ga K "Pattern")) = some false
  is_list_Pattern : PySem.W.kitOne K (.type "list") (.ref (He.ga K "Pattern")) = some false
  is_tuple_Pattern : PySem.W.kitOne K (.type "tuple") (.ref (He.ga K "Pattern")) = some false
  is_NoneType_Pattern : PySem.W.kitOne K (.type "NoneType") (.ref (He.ga K "Pattern")) = some false
  is_dict_Pattern : PySem.W.kitOne K (.type "dict") (.ref (He.ga K "Pattern")) = some false
  is_Pattern_str : PySem.W.kitOne K (.ref (He.ga K "Pattern")) (.type "str") = some false
  is_Pattern_int : PySem.W.kitOne K (.ref (He.ga K "Pattern")) (.type "int") = some false
  is_Pattern_bool : PySem.W.kitOne K (.ref (He.ga K "Pattern")) (.type "bool") = some false
  is_Pattern_list : PySem.W.kitOne K (.ref (He.ga K "Pattern")) (.type "list") = some false
  is_Pattern_tuple : PySem.W.kitOne K (.ref (He.ga K "Pattern")) (.type "tuple") = some false
  is_Pattern_dict : PySem.W.kitOne K (.ref (He.ga K "Pattern")) (.type "dict") = some false
  is_Pattern_Pattern : PySem.W.kitOne K (.ref (He.ga K "Pattern")) (.ref (He.ga K "Pattern")) = some true
  is_Pattern_Row : PySem.W.kitOne K (.ref (He.ga K "Pattern")) (.ref (He.ga K "Row")) = some false
  g_Row : mg "Row" = some (.ref (He.ga K "Row"))
  c_Row : Cls K (He.ga K "Row")
  mk_Row : Mk K (He.ga K "Row") (He.ma K (He.ga K "Row") "__init__")
  ty_Row : insB "Row" K = true
  nq_Row : PySem.W.noSeq K (He.ga K "Row") = true
  ss_Row : PySem.W.subIn K (.ref (He.ga K "Row")) (.type "str") = some false
  nn_Row : PySem.W.findIn K (.ref (He.ga K "Row")) "__ne__" = some (some (.builtin "object.__ne__"))
  mo_Row : PySem.W.mroIn K (He.ga K "Row") (.type "object") = some true
  na_Row_own_far : NoAttr K (He.ga K "Row") "own_far"
  na_Row_own_told : NoAttr K (He.ga K "Row") "own_told"
  is_str_Row : PySem.W.kitOne K (.type "str") (.ref (He.ga K "Row")) = some false
  is_int_Row : PySem.W.kitOne K (.type "int") (.ref (He.ga K "Row")) = some false
  is_bool_Row : PySem.W.kitOne K (.type "bool") (.ref (He.ga K "Row")) = some false
  is_list_Row : PySem.W.kitOne K (.type "list") (.ref (He.ga K "Row")) = some false
  is_tuple_Row : PySem.W.kitOne K (.type "tuple") (.ref (He.ga K "Row")) = some false
  is_NoneType_Row : PySem.W.kitOne K (.type "NoneType") (.ref (He.ga K "Row")) = some false
  is_dict_Row : PySem.W.kitOne K (.type "dict") (.ref (He.ga K "Row")) = some false
  is_Row_str : PySem.W.kitOne K (.ref (He.ga K "Row")) (.type "str") = some false
  is_Row_int : PySem.W.kitOne K (.ref (He.ga K "Row")) (.type "int") = some false
  is_Row_bool : PySem.W.kitOne K (.ref (He.ga K "Row")) (.type "bool") = some false
  is_Row_list : PySem.W.kitOne K (.ref (He.ga K "Row")) (.type "list") = some false
  is_Row_tuple : PySem.W.kitOne K (.ref (He.ga K "Row")) (.type "tuple") = some false
  is_Row_dict : PySem.W.kitOne K (.ref (He.ga K "Row")) (.type "dict") = some false
  is_Row_Pattern : PySem.W.kitOne K (.ref (He.ga K "Row")) (.ref (He.ga K "Pattern")) = some false
  is_Row_Row : PySem.W.kitOne K (.ref (He.ga K "Row")) (.ref (He.ga K "Row")) = some true
  is_str_str : PySem.W.kitOne K (.type "str") (.type "str") = some true
  is_str_int : PySem.W.kitOne K (.type "str") (.type "int") = some false
  is_str_bool : PySem.W.kitOne K (.type "str") (.type "bool") = some false
  is_str_list : PySem.W.kitOne K (.type "str") (.type "list") = some false
  is_str_tuple : PySem.W.kitOne K (.type "str") (.type "tuple") = some false
  is_str_dict : PySem.W.kitOne K (.type "str") (.type "dict") = some false
  is_int_str : PySem.W.kitOne K (.type "int") (.type "str") = some false
  is_int_int : PySem.W.kitOne K (.type "int") (.type "int") = some true
  is_int_bool : PySem.W.kitOne K (.type "int") (.type "bool") = some false
  is_int_list : PySem.W.kitOne K (.type "int") (.type "list") = some false
  is_int_tuple : PySem.W.kitOne K (.type "int") (.type "tuple") = some false
  is_int_dict : PySem.W.kitOne K (.type "int") (.type "dict") = some false
  is_bool_str : PySem.W.kitOne K (.type "bool") (.type "str") = some false
  is_bool_int : PySem.W.kitOne K (.type "bool") (.type "int") = some true
  is_bool_bool : PySem.W.kitOne K (.type "bool") (.type "bool") = some true
  is_bool_list : PySem.W.kitOne K (.type "bool") (.type "list") = some false
  is_bool_tuple : PySem.W.kitOne K (.type "bool") (.type "tuple") = some false
  is_bool_dict : PySem.W.kitOne K (.type "bool") (.type "dict") = some false
  is_list_str : PySem.W.kitOne K (.type "list") (.type "str") = some false
  is_list_int : PySem.W.kitOne K (.type "list") (.type "int") = some false
  is_list_bool : PySem.W.kitOne K (.type "list") (.type "bool") = some false
  is_list_list : PySem.W.kitOne K (.type "list") (.type "list") = some true
  is_list_tuple : PySem.W.kitOne K (.type "list") (.type "tuple") = some false
  is_list_dict : PySem.W.kitOne K (.type "list") (.type "dict") = some false
  is_tuple_str : PySem.W.kitOne K (.type "tuple") (.type "str") = some false
  is_tuple_int : PySem.W.kitOne K (.type "tuple") (.type "int") = some false
  is_tuple_bool : PySem.W.kitOne K (.type "tuple") (.type "bool") = some false
  is_tuple_list : PySem.W.kitOne K (.type "tuple") (.type "list") = some false
  is_tuple_tuple : PySem.W.kitOne K (.type "tuple") (.type "tuple") = some true
  is_tuple_dict : PySem.W.kitOne K (.type "tuple") (.type "dict") = some false
  is_NoneType_str : PySem.W.kitOne K (.type "NoneType") (.type "str") = some false
  is_NoneType_int : PySem.W.kitOne K (.type "NoneType") (.type "int") = some false
  is_NoneType_bool : PySem.W.kitOne K (.type "NoneType") (.type "bool") = some false
  is_NoneType_list : PySem.W.kitOne K (.type "NoneType") (.type "list") = some false
  is_NoneType_tuple : PySem.W.kitOne K (.type "NoneType") (.type "tuple") = some false
  is_NoneType_dict : PySem.W.kitOne K (.type "NoneType") (.type "dict") = some false
  is_dict_str : PySem.W.kitOne K (.type "dict") (.type "str") = some false
  is_dict_int : PySem.W.kitOne K (.type "dict") (.type "int") = some false
  is_dict_bool : PySem.W.kitOne K (.type "dict") (.type "bool") = some false
  is_dict_list : PySem.W.kitOne K (.type "dict") (.type "list") = some false
  is_dict_tuple : PySem.W.kitOne K (.type "dict") (.type "tuple") = some false
  is_dict_dict : PySem.W.kitOne K (.type "dict") (.type "dict") = some true
  m_Pattern_filled : Meth K (He.ga K "Pattern") "filled" (He.ma K (He.ga K "Pattern") "filled")
  m_Pattern_width : Meth K (He.ga K "Pattern") "width" (He.ma K (He.ga K "Pattern") "width")
  m_Pattern_want_room : Meth K (He.ga K "Pattern") "want_room" (He.ma K (He.ga K "Pattern") "want_room")
  m_Pattern_add : Meth K (He.ga K "Pattern") "__add__" (He.ma K (He.ga K "Pattern") "__add__")
  m_Pattern_radd : Meth K (He.ga K "Pattern") "__radd__" (He.ma K (He.ga K "Pattern") "__radd__")
  m_Pattern_len : Meth K (He.ga K "Pattern") "__len__" (He.ma K (He.ga K "Pattern") "__len__")
  m_Pattern_str : Meth K (He.ga K "Pattern") "__str__" (He.ma K (He.ga K "Pattern") "__str__")
  m_Pattern_repr : Meth K (He.ga K "Pattern") "__repr__" (He.ma K (He.ga K "Pattern") "__repr__")
  m_Pattern_eq : Meth K (He.ga K "Pattern") "__eq__" (He.ma K (He.ga K "Pattern") "__eq__")
  m_Row_set_far : Meth K (He.ga K "Row") "set_far" (He.ma K (He.ga K "Row") "set_far")
  m_Row_word_at : Meth K (He.ga K "Row") "word_at" (He.ma K (He.ga K "Row") "word_at")
  m_Row_has_pattern : Meth K (He.ga K "Row") "has_pattern" (He.ma K (He.ga K "Row") "has_pattern")
  m_Row_width : Meth K (He.ga K "Row") "width" (He.ma K (He.ga K "Row") "width")
  m_Row_told : Meth K (He.ga K "Row") "told" (He.ma K (He.ga K "Row") "told")
  m_Row_widths : Meth K (He.ga K "Row") "widths" (He.ma K (He.ga K "Row") "widths")
  m_Row_forward_fault : Meth K (He.ga K "Row") "forward_fault" (He.ma K (He.ga K "Row") "forward_fault")
  m_Row_backward_fault : Meth K (He.ga K "Row") "backward_fault" (He.ma K (He.ga K "Row") "backward_fault")
  m_Row_copy : Meth K (He.ga K "Row") "copy" (He.ma K (He.ga K "Row") "copy")
  m_Row_is_narrow_beside : Meth K (He.ga K "Row") "is_narrow_beside" (He.ma K (He.ga K "Row") "is_narrow_beside")
  m_Row_getitem : Meth K (He.ga K "Row") "__getitem__" (He.ma K (He.ga K "Row") "__getitem__")
  m_Row_setitem : Meth K (He.ga K "Row") "__setitem__" (He.ma K (He.ga K "Row") "__setitem__")
  m_Row_iter : Meth K (He.ga K "Row") "__iter__" (He.ma K (He.ga K "Row") "__iter__")
  m_Row_len : Meth K (He.ga K "Row") "__len__" (He.ma K (He.ga K "Row") "__len__")
  m_Row_eq : Meth K (He.ga K "Row") "__eq__" (He.ma K (He.ga K "Row") "__eq__")
  m_Row_le : Meth K (He.ga K "Row") "__le__" (He.ma K (He.ga K "Row") "__le__")
  m_Row_lt : Meth K (He.ga K "Row") "__lt__" (He.ma K (He.ga K "Row") "__lt__")
  k_MOST_CHARACTERS : ∃ t, mg "MOST_CHARACTERS" = some (.int 20 t)
  k_BLANK : ∃ t, mg "BLANK" = some (.str " " t)
  k_HASH : ∃ t, mg "HASH" = some (.str "#" t)
  g_NOT_IN_WORDS : mg "NOT_IN_WORDS" = some (.ref (He.ga K "NOT_IN_WORDS"))
  k_NOT_IN_WORDS : ∀ H : Hp, SqT K H (He.ga K "NOT_IN_WORDS") [.int 34, .int 35, .int 37, .int 92]
  k_MOST_TOLD : ∃ t, mg "MOST_TOLD" = some (.int 8 t)
  b_abs : mg "abs" = none
  b_all : mg "all" = none
  b_bool : mg "bool" = none
  b_divmod : mg "divmod" = none
  b_enumerate : mg "enumerate" = none
  b_int : mg "int" = none
  b_isinstance : mg "isinstance" = none
  b_len : mg "len" = none
  b_list : mg "list" = none
  b_max : mg "max" = none
  b_min : mg "min" = none
  b_ord : mg "ord" = none
  b_range : mg "range" = none
  b_repr : mg "repr" = none
  b_str : mg "str" = none
  b_tuple : mg "tuple" = none
  b_zip : mg "zip" = none
  e_Row_init_0 : ∀ H : Hp, SqT K H (He.dflAt ("Row", some "__init__") 0 K) []
  et_Row_init_0 : ∀ H : Hp, TyX K H (.ref (He.dflAt ("Row", some "__init__") 0 K)) (.type "tuple")
def looks : List (PySem.W.Frag → Bool) := [
  fun K => (He.Fa.glo "_wall").ok K,
  fun K => (He.Fa.glo "is_integer").ok K,
  fun K => (He.Fa.glo "is_count").ok K,
  fun K => (He.Fa.glo "is_list").ok K,
  fun K => (He.Fa.glo "is_character").ok K,
  fun K => (He.Fa.glo "is_word").ok K,
  fun K => (He.Fa.glo "is_pattern_text").ok K,
  fun K => (He.Fa.glo "is_far").ok K,
  fun K => (He.Fa.glo "want_distance").ok K,
  fun K => (He.Fa.glo "_law_rng").ok K,
  fun K => (He.Fa.glo "_law_draw").ok K,
  fun K => (He.Fa.glo "_law_choice").ok K,
  fun K => (He.Fa.glo "_law_word").ok K,
  fun K => (He.Fa.glo "_law_any_word").ok K,
  fun K => (He.Fa.glo "_law_pattern_text").ok K,
  fun K => (He.Fa.glo "_law_plan").ok K,
  fun K => (He.Fa.glo "_law_far").ok K,
  fun K => (He.Fa.glo "_law_real").ok K,
  fun K => (He.Fa.glo "_law_at").ok K,
  fun K => (He.Fa.glo "_law_widths").ok K,
  fun K => (He.Fa.glo "_law_is_below").ok K,
  fun K => (He.Fa.glo "_law_wider").ok K,
  fun K => (He.Fa.glo "_law_pair_right").ok K,
  fun K => (He.Fa.glo "_law_changed_right").ok K,
  fun K => (He.Fa.glo "_law_told_more_right").ok K,
  fun K => (He.Fa.glo "_law_right").ok K,
  fun K => (He.Fa.glo "law").ok K,
  fun K => (He.Fa.glo "Pattern").ok K,
  fun K => (He.Fa.cls "Pattern").ok K,
  fun K => (He.Fa.mkr "Pattern").ok K,
  insB "Pattern",
  fun K => decide (PySem.W.subIn K (.ref (He.ga K "Pattern")) (.type "str") = some false),
  fun K => He.eqO (PySem.W.findIn K (.ref (He.ga K "Pattern")) "__ne__") (some (some (.builtin "object.__ne__"))),
  fun K => decide (PySem.W.mroIn K (He.ga K "Pattern") (.type "object") = some true),
  fun K => (He.Fa.noat "Pattern" "own_ahead").ok K,
  fun K => (He.Fa.noat "Pattern" "own_behind").ok K,
  fun K => (He.Fa.noat "Pattern" "own_text").ok K,
  isB (fun _ => .type "str") (fun K => .ref (He.ga K "Pattern")) false,
  isB (fun _ => .type "int") (fun K => .ref (He.ga K "Pattern")) false,
  isB (fun _ => .type "bool") (fun K => .ref (He.ga K "Pattern")) false,
  isB (fun _ => .type "list") (fun K => .ref (He.ga K "Pattern")) false,
  isB (fun _ => .type "tuple") (fun K => .ref (He.ga K "Pattern")) false,
  isB (fun _ => .type "NoneType") (fun K => .ref (He.ga K "Pattern")) false,
  isB (fun _ => .type "dict") (fun K => .ref (He.ga K "Pattern")) false,
  isB (fun K => .ref (He.ga K "Pattern")) (fun _ => .type "str") false,
  isB (fun K => .ref (He.ga K "Pattern")) (fun _ => .type "int") false,
  isB (fun K => .ref (He.ga K "Pattern")) (fun _ => .type "bool") false,
  isB (fun K => .ref (He.ga K "Pattern")) (fun _ => .type "list") false,
  isB (fun K => .ref (He.ga K "Pattern")) (fun _ => .type "tuple") false,
  isB (fun K => .ref (He.ga K "Pattern")) (fun _ => .type "dict") false,
  isB (fun K => .ref (He.ga K "Pattern")) (fun K => .ref (He.ga K "Pattern")) true,
  isB (fun K => .ref (He.ga K "Pattern")) (fun K => .ref (He.ga K "Row")) false,
  fun K => (He.Fa.glo "Row").ok K,
  fun K => (He.Fa.cls "Row").ok K,
  fun K => (He.Fa.mkr "Row").ok K,
  insB "Row",
  fun K => PySem.W.noSeq K (He.ga K "Row"),
  fun K => decide (PySem.W.subIn K (.ref (He.ga K "Row")) (.type "str") = some false),
  fun K => He.eqO (PySem.W.findIn K (.ref (He.ga K "Row")) "__ne__") (some (some (.builtin "object.__ne__"))),
  fun K => decide (PySem.W.mroIn K (He.ga K "Row") (.type "object") = some true),
  fun K => (He.Fa.noat "Row" "own_far").ok K,
  fun K => (He.Fa.noat "Row" "own_told").ok K,
  isB (fun _ => .type "str") (fun K => .ref (He.ga K "Row")) false,
  isB (fun _ => .type "int") (fun K => .ref (He.ga K "Row")) false,
  isB (fun _ => .type "bool") (fun K => .ref (He.ga K "Row")) false,
  isB (fun _ => .type "list") (fun K => .ref (He.ga K "Row")) false,
  isB (fun _ => .type "tuple") (fun K => .ref (He.ga K "Row")) false,
  isB (fun _ => .type "NoneType") (fun K => .ref (He.ga K "Row")) false,
  isB (fun _ => .type "dict") (fun K => .ref (He.ga K "Row")) false,
  isB (fun K => .ref (He.ga K "Row")) (fun _ => .type "str") false,
  isB (fun K => .ref (He.ga K "Row")) (fun _ => .type "int") false,
  isB (fun K => .ref (He.ga K "Row")) (fun _ => .type "bool") false,
  isB (fun K => .ref (He.ga K "Row")) (fun _ => .type "list") false,
  isB (fun K => .ref (He.ga K "Row")) (fun _ => .type "tuple") false,
  isB (fun K => .ref (He.ga K "Row")) (fun _ => .type "dict") false,
  isB (fun K => .ref (He.ga K "Row")) (fun K => .ref (He.ga K "Pattern")) false,
  isB (fun K => .ref (He.ga K "Row")) (fun K => .ref (He.ga K "Row")) true,
  isB (fun _ => .type "str") (fun _ => .type "str") true,
  isB (fun _ => .type "str") (fun _ => .type "int") false,
  isB (fun _ => .type "str") (fun _ => .type "bool") false,
  isB (fun _ => .type "str") (fun _ => .type "list") false,
  isB (fun _ => .type "str") (fun _ => .type "tuple") false,
  isB (fun _ => .type "str") (fun _ => .type "dict") false,
  isB (fun _ => .type "int") (fun _ => .type "str") false,
  isB (fun _ => .type "int") (fun _ => .type "int") true,
  isB (fun _ => .type "int") (fun _ => .type "bool") false,
  isB (fun _ => .type "int") (fun _ => .type "list") false,
  isB (fun _ => .type "int") (fun _ => .type "tuple") false,
  isB (fun _ => .type "int") (fun _ => .type "dict") false,
  isB (fun _ => .type "bool") (fun _ => .type "str") false,
  isB (fun _ => .type "bool") (fun _ => .type "int") true,
  isB (fun _ => .type "bool") (fun _ => .type "bool") true,
  isB (fun _ => .type "bool") (fun _ => .type "list") false,
  isB (fun _ => .type "bool") (fun _ => .type "tuple") false,
  isB (fun _ => .type "bool") (fun _ => .type "dict") false,
  isB (fun _ => .type "list") (fun _ => .type "str") false,
  isB (fun _ => .type "list") (fun _ => .type "int") false,
  isB (fun _ => .type "list") (fun _ => .type "bool") false,
  isB (fun _ => .type "list") (fun _ => .type "list") true,
  isB (fun _ => .type "list") (fun _ => .type "tuple") false,
  isB (fun _ => .type "list") (fun _ => .type "dict") false,
  isB (fun _ => .type "tuple") (fun _ => .type "str") false,
  isB (fun _ => .type "tuple") (fun _ => .type "int") false,
  isB (fun _ => .type "tuple") (fun _ => .type "bool") false,
  isB (fun _ => .type "tuple") (fun _ => .type "list") false,
  isB (fun _ => .type "tuple") (fun _ => .type "tuple") true,
  isB (fun _ => .type "tuple") (fun _ => .type "dict") false,
  isB (fun _ => .type "NoneType") (fun _ => .type "str") false,
  isB (fun _ => .type "NoneType") (fun _ => .type "int") false,
  isB (fun _ => .type "NoneType") (fun _ => .type "bool") false,
  isB (fun _ => .type "NoneType") (fun _ => .type "list") false,
  isB (fun _ => .type "NoneType") (fun _ => .type "tuple") false,
  isB (fun _ => .type "NoneType") (fun _ => .type "dict") false,
  isB (fun _ => .type "dict") (fun _ => .type "str") false,
  isB (fun _ => .type "dict") (fun _ => .type "int") false,
  isB (fun _ => .type "dict") (fun _ => .type "bool") false,
  isB (fun _ => .type "dict") (fun _ => .type "list") false,
  isB (fun _ => .type "dict") (fun _ => .type "tuple") false,
  isB (fun _ => .type "dict") (fun _ => .type "dict") true,
  fun K => (He.Fa.meth "Pattern" "filled").ok K,
  fun K => (He.Fa.meth "Pattern" "width").ok K,
  fun K => (He.Fa.meth "Pattern" "want_room").ok K,
  fun K => (He.Fa.meth "Pattern" "__add__").ok K,
  fun K => (He.Fa.meth "Pattern" "__radd__").ok K,
  fun K => (He.Fa.meth "Pattern" "__len__").ok K,
  fun K => (He.Fa.meth "Pattern" "__str__").ok K,
  fun K => (He.Fa.meth "Pattern" "__repr__").ok K,
  fun K => (He.Fa.meth "Pattern" "__eq__").ok K,
  fun K => (He.Fa.meth "Row" "set_far").ok K,
  fun K => (He.Fa.meth "Row" "word_at").ok K,
  fun K => (He.Fa.meth "Row" "has_pattern").ok K,
  fun K => (He.Fa.meth "Row" "width").ok K,
  fun K => (He.Fa.meth "Row" "told").ok K,
  fun K => (He.Fa.meth "Row" "widths").ok K,
  fun K => (He.Fa.meth "Row" "forward_fault").ok K,
  fun K => (He.Fa.meth "Row" "backward_fault").ok K,
  fun K => (He.Fa.meth "Row" "copy").ok K,
  fun K => (He.Fa.meth "Row" "is_narrow_beside").ok K,
  fun K => (He.Fa.meth "Row" "__getitem__").ok K,
  fun K => (He.Fa.meth "Row" "__setitem__").ok K,
  fun K => (He.Fa.meth "Row" "__iter__").ok K,
  fun K => (He.Fa.meth "Row" "__len__").ok K,
  fun K => (He.Fa.meth "Row" "__eq__").ok K,
  fun K => (He.Fa.meth "Row" "__le__").ok K,
  fun K => (He.Fa.meth "Row" "__lt__").ok K,
  fun K => (He.Fa.int "MOST_CHARACTERS" 20).ok K,
  fun K => (He.Fa.str "BLANK" " ").ok K,
  fun K => (He.Fa.str "HASH" "#").ok K,
  fun K => (He.Fa.glo "NOT_IN_WORDS").ok K,
  fun K => He.tupB K "NOT_IN_WORDS" [.int 34, .int 35, .int 37, .int 92],
  fun K => (He.Fa.int "MOST_TOLD" 8).ok K,
  fun K => (He.Fa.free "abs").ok K,
  fun K => (He.Fa.free "all").ok K,
  fun K => (He.Fa.free "bool").ok K,
  fun K => (He.Fa.free "divmod").ok K,
  fun K => (He.Fa.free "enumerate").ok K,
  fun K => (He.Fa.free "int").ok K,
  fun K => (He.Fa.free "isinstance").ok K,
  fun K => (He.Fa.free "len").ok K,
  fun K => (He.Fa.free "list").ok K,
  fun K => (He.Fa.free "max").ok K,
  fun K => (He.Fa.free "min").ok K,
  fun K => (He.Fa.free "ord").ok K,
  fun K => (He.Fa.free "range").ok K,
  fun K => (He.Fa.free "repr").ok K,
  fun K => (He.Fa.free "str").ok K,
  fun K => (He.Fa.free "tuple").ok K,
  fun K => (He.Fa.free "zip").ok K,
  fun K => tupAtB K (He.dflAt ("Row", some "__init__") 0 K),
  fun K => tupAtB K (He.dflAt ("Row", some "__init__") 0 K)]
def defns : List He.DefD := [
  ⟨("_wall", none), "_wall", "_wall", defArgs s__wall, defBody s__wall, defScope s__wall, [], []⟩,
  ⟨("is_integer", none), "is_integer", "is_integer", defArgs s_is_integer, defBody s_is_integer, defScope s_is_integer, [], []⟩,
  ⟨("is_count", none), "is_count", "is_count", defArgs s_is_count, defBody s_is_count, defScope s_is_count, [], []⟩,
  ⟨("is_list", none), "is_list", "is_list", defArgs s_is_list, defBody s_is_list, defScope s_is_list, [], []⟩,
  ⟨("is_character", none), "is_character", "is_character", defArgs s_is_character, defBody s_is_character, defScope s_is_character, [], []⟩,
  ⟨("is_word", none), "is_word", "is_word", defArgs s_is_word, defBody s_is_word, defScope s_is_word, [], []⟩,
  ⟨("is_pattern_text", none), "is_pattern_text", "is_pattern_text", defArgs s_is_pattern_text, defBody s_is_pattern_text, defScope s_is_pattern_text, [], []⟩,
  ⟨("Pattern", some "__init__"), "__init__", "Pattern.__init__", defArgs s_Pattern_init, defBody s_Pattern_init, defScope s_Pattern_init, [], []⟩,
  ⟨("Pattern", some "filled"), "filled", "Pattern.filled", defArgs s_Pattern_filled, defBody s_Pattern_filled, defScope s_Pattern_filled, [], []⟩,
  ⟨("Pattern", some "width"), "width", "Pattern.width", defArgs s_Pattern_width, defBody s_Pattern_width, defScope s_Pattern_width, [], []⟩,
  ⟨("Pattern", some "want_room"), "want_room", "Pattern.want_room", defArgs s_Pattern_want_room, defBody s_Pattern_want_room, defScope s_Pattern_want_room, [], []⟩,
  ⟨("Pattern", some "__add__"), "__add__", "Pattern.__add__", defArgs s_Pattern_add, defBody s_Pattern_add, defScope s_Pattern_add, [], []⟩,
  ⟨("Pattern", some "__radd__"), "__radd__", "Pattern.__radd__", defArgs s_Pattern_radd, defBody s_Pattern_radd, defScope s_Pattern_radd, [], []⟩,
  ⟨("Pattern", some "__len__"), "__len__", "Pattern.__len__", defArgs s_Pattern_len, defBody s_Pattern_len, defScope s_Pattern_len, [], []⟩,
  ⟨("Pattern", some "__str__"), "__str__", "Pattern.__str__", defArgs s_Pattern_str, defBody s_Pattern_str, defScope s_Pattern_str, [], []⟩,
  ⟨("Pattern", some "__repr__"), "__repr__", "Pattern.__repr__", defArgs s_Pattern_repr, defBody s_Pattern_repr, defScope s_Pattern_repr, [], []⟩,
  ⟨("Pattern", some "__eq__"), "__eq__", "Pattern.__eq__", defArgs s_Pattern_eq, defBody s_Pattern_eq, defScope s_Pattern_eq, [], []⟩,
  ⟨("is_far", none), "is_far", "is_far", defArgs s_is_far, defBody s_is_far, defScope s_is_far, [], []⟩,
  ⟨("want_distance", none), "want_distance", "want_distance", defArgs s_want_distance, defBody s_want_distance, defScope s_want_distance, [], []⟩,
  ⟨("Row", some "__init__"), "__init__", "Row.__init__", defArgs s_Row_init, defBody s_Row_init, defScope s_Row_init, [.adr (He.dflAt ("Row", some "__init__") 0), .str ""], []⟩,
  ⟨("Row", some "set_far"), "set_far", "Row.set_far", defArgs s_Row_set_far, defBody s_Row_set_far, defScope s_Row_set_far, [], []⟩,
  ⟨("Row", some "word_at"), "word_at", "Row.word_at", defArgs s_Row_word_at, defBody s_Row_word_at, defScope s_Row_word_at, [], []⟩,
  ⟨("Row", some "has_pattern"), "has_pattern", "Row.has_pattern", defArgs s_Row_has_pattern, defBody s_Row_has_pattern, defScope s_Row_has_pattern, [], []⟩,
  ⟨("Row", some "width"), "width", "Row.width", defArgs s_Row_width, defBody s_Row_width, defScope s_Row_width, [], []⟩,
  ⟨("Row", some "told"), "told", "Row.told", defArgs s_Row_told, defBody s_Row_told, defScope s_Row_told, [], []⟩,
  ⟨("Row", some "widths"), "widths", "Row.widths", defArgs s_Row_widths, defBody s_Row_widths, defScope s_Row_widths, [], []⟩,
  ⟨("Row", some "forward_fault"), "forward_fault", "Row.forward_fault", defArgs s_Row_forward_fault, defBody s_Row_forward_fault, defScope s_Row_forward_fault, [], []⟩,
  ⟨("Row", some "backward_fault"), "backward_fault", "Row.backward_fault", defArgs s_Row_backward_fault, defBody s_Row_backward_fault, defScope s_Row_backward_fault, [], []⟩,
  ⟨("Row", some "copy"), "copy", "Row.copy", defArgs s_Row_copy, defBody s_Row_copy, defScope s_Row_copy, [], []⟩,
  ⟨("Row", some "is_narrow_beside"), "is_narrow_beside", "Row.is_narrow_beside", defArgs s_Row_is_narrow_beside, defBody s_Row_is_narrow_beside, defScope s_Row_is_narrow_beside, [], []⟩,
  ⟨("Row", some "__getitem__"), "__getitem__", "Row.__getitem__", defArgs s_Row_getitem, defBody s_Row_getitem, defScope s_Row_getitem, [], []⟩,
  ⟨("Row", some "__setitem__"), "__setitem__", "Row.__setitem__", defArgs s_Row_setitem, defBody s_Row_setitem, defScope s_Row_setitem, [], []⟩,
  ⟨("Row", some "__iter__"), "__iter__", "Row.__iter__", defArgs s_Row_iter, defBody s_Row_iter, defScope s_Row_iter, [], []⟩,
  ⟨("Row", some "__len__"), "__len__", "Row.__len__", defArgs s_Row_len, defBody s_Row_len, defScope s_Row_len, [], []⟩,
  ⟨("Row", some "__eq__"), "__eq__", "Row.__eq__", defArgs s_Row_eq, defBody s_Row_eq, defScope s_Row_eq, [], []⟩,
  ⟨("Row", some "__le__"), "__le__", "Row.__le__", defArgs s_Row_le, defBody s_Row_le, defScope s_Row_le, [], []⟩,
  ⟨("Row", some "__lt__"), "__lt__", "Row.__lt__", defArgs s_Row_lt, defBody s_Row_lt, defScope s_Row_lt, [], []⟩,
  ⟨("_law_rng", none), "_law_rng", "_law_rng", defArgs s__law_rng, defBody s__law_rng, defScope s__law_rng, [], []⟩,
  ⟨("_law_draw", none), "_law_draw", "_law_draw", defArgs s__law_draw, defBody s__law_draw, defScope s__law_draw, [], []⟩,
  ⟨("_law_choice", none), "_law_choice", "_law_choice", defArgs s__law_choice, defBody s__law_choice, defScope s__law_choice, [], []⟩,
  ⟨("_law_word", none), "_law_word", "_law_word", defArgs s__law_word, defBody s__law_word, defScope s__law_word, [], []⟩,
  ⟨("_law_any_word", none), "_law_any_word", "_law_any_word", defArgs s__law_any_word, defBody s__law_any_word, defScope s__law_any_word, [], []⟩,
  ⟨("_law_pattern_text", none), "_law_pattern_text", "_law_pattern_text", defArgs s__law_pattern_text, defBody s__law_pattern_text, defScope s__law_pattern_text, [], []⟩,
  ⟨("_law_plan", none), "_law_plan", "_law_plan", defArgs s__law_plan, defBody s__law_plan, defScope s__law_plan, [], []⟩,
  ⟨("_law_far", none), "_law_far", "_law_far", defArgs s__law_far, defBody s__law_far, defScope s__law_far, [], []⟩,
  ⟨("_law_real", none), "_law_real", "_law_real", defArgs s__law_real, defBody s__law_real, defScope s__law_real, [], []⟩,
  ⟨("_law_at", none), "_law_at", "_law_at", defArgs s__law_at, defBody s__law_at, defScope s__law_at, [], []⟩,
  ⟨("_law_widths", none), "_law_widths", "_law_widths", defArgs s__law_widths, defBody s__law_widths, defScope s__law_widths, [], []⟩,
  ⟨("_law_is_below", none), "_law_is_below", "_law_is_below", defArgs s__law_is_below, defBody s__law_is_below, defScope s__law_is_below, [], []⟩,
  ⟨("_law_wider", none), "_law_wider", "_law_wider", defArgs s__law_wider, defBody s__law_wider, defScope s__law_wider, [], []⟩,
  ⟨("_law_pair_right", none), "_law_pair_right", "_law_pair_right", defArgs s__law_pair_right, defBody s__law_pair_right, defScope s__law_pair_right, [], []⟩,
  ⟨("_law_changed_right", none), "_law_changed_right", "_law_changed_right", defArgs s__law_changed_right, defBody s__law_changed_right, defScope s__law_changed_right, [], []⟩,
  ⟨("_law_told_more_right", none), "_law_told_more_right", "_law_told_more_right", defArgs s__law_told_more_right, defBody s__law_told_more_right, defScope s__law_told_more_right, [], []⟩,
  ⟨("_law_right", none), "_law_right", "_law_right", defArgs s__law_right, defBody s__law_right, defScope s__law_right, [], []⟩,
  ⟨("law", none), "law", "law", defArgs s_law, defBody s_law, defScope s_law, [], []⟩]
theorem tx_of {K : PySem.W.Frag} {h : Heap} {mg : Str → Option Value} (X : K.In h) (G : h.Ns mainGlobals mg) (s : SaysX looks defns K) : TX K mg where
  d__wall := s.defd 0
  d_is_integer := s.defd 1
  d_is_count := s.defd 2
  d_is_list := s.defd 3
  d_is_character := s.defd 4
  d_is_word := s.defd 5
  d_is_pattern_text := s.defd 6
  d_Pattern_init := s.defd 7
  d_Pattern_filled := s.defd 8
  d_Pattern_width := s.defd 9
  d_Pattern_want_room := s.defd 10
  d_Pattern_add := s.defd 11
  d_Pattern_radd := s.defd 12
  d_Pattern_len := s.defd 13
  d_Pattern_str := s.defd 14
  d_Pattern_repr := s.defd 15
  d_Pattern_eq := s.defd 16
  d_is_far := s.defd 17
  d_want_distance := s.defd 18
  d_Row_init := s.defd 19
  d_Row_set_far := s.defd 20
  d_Row_word_at := s.defd 21
  d_Row_has_pattern := s.defd 22
  d_Row_width := s.defd 23
  d_Row_told := s.defd 24
  d_Row_widths := s.defd 25
  d_Row_forward_fault := s.defd 26
  d_Row_backward_fault := s.defd 27
  d_Row_copy := s.defd 28
  d_Row_is_narrow_beside := s.defd 29
  d_Row_getitem := s.defd 30
  d_Row_setitem := s.defd 31
  d_Row_iter := s.defd 32
  d_Row_len := s.defd 33
  d_Row_eq := s.defd 34
  d_Row_le := s.defd 35
  d_Row_lt := s.defd 36
  d__law_rng := s.defd 37
  d__law_draw := s.defd 38
  d__law_choice := s.defd 39
  d__law_word := s.defd 40
  d__law_any_word := s.defd 41
  d__law_pattern_text := s.defd 42
  d__law_plan := s.defd 43
  d__law_far := s.defd 44
  d__law_real := s.defd 45
  d__law_at := s.defd 46
  d__law_widths := s.defd 47
  d__law_is_below := s.defd 48
  d__law_wider := s.defd 49
  d__law_pair_right := s.defd 50
  d__law_changed_right := s.defd 51
  d__law_told_more_right := s.defd 52
  d__law_right := s.defd 53
  d_law := s.defd 54
  g__wall := have c := s.look 0; He.glo_ok X G c
  g_is_integer := have c := s.look 1; He.glo_ok X G c
  g_is_count := have c := s.look 2; He.glo_ok X G c
  g_is_list := have c := s.look 3; He.glo_ok X G c
  g_is_character := have c := s.look 4; He.glo_ok X G c
  g_is_word := have c := s.look 5; He.glo_ok X G c
  g_is_pattern_text := have c := s.look 6; He.glo_ok X G c
  g_is_far := have c := s.look 7; He.glo_ok X G c
  g_want_distance := have c := s.look 8; He.glo_ok X G c
  g__law_rng := have c := s.look 9; He.glo_ok X G c
  g__law_draw := have c := s.look 10; He.glo_ok X G c
  g__law_choice := have c := s.look 11; He.glo_ok X G c
  g__law_word := have c := s.look 12; He.glo_ok X G c
  g__law_any_word := have c := s.look 13; He.glo_ok X G c
  g__law_pattern_text := have c := s.look 14; He.glo_ok X G c
  g__law_plan := have c := s.look 15; He.glo_ok X G c
  g__law_far := have c := s.look 16; He.glo_ok X G c
  g__law_real := have c := s.look 17; He.glo_ok X G c
  g__law_at := have c := s.look 18; He.glo_ok X G c
  g__law_widths := have c := s.look 19; He.glo_ok X G c
  g__law_is_below := have c := s.look 20; He.glo_ok X G c
  g__law_wider := have c := s.look 21; He.glo_ok X G c
  g__law_pair_right := have c := s.look 22; He.glo_ok X G c
  g__law_changed_right := have c := s.look 23; He.glo_ok X G c
  g__law_told_more_right := have c := s.look 24; He.glo_ok X G c
  g__law_right := have c := s.look 25; He.glo_ok X G c
  g_law := have c := s.look 26; He.glo_ok X G c
  g_Pattern := have c := s.look 27; He.glo_ok X G c
  c_Pattern := have c := s.look 28; He.cls_ok c
  mk_Pattern := have c := s.look 29; He.mkr_ok c
  ty_Pattern := have c := s.look 30; c
  ss_Pattern := have c := s.look 31; of_decide_eq_true c
  nn_Pattern := have c := s.look 32; He.eqO_ok c
  mo_Pattern := have c := s.look 33; of_decide_eq_true c
  na_Pattern_own_ahead := have c := s.look 34; He.noat_ok c
  na_Pattern_own_behind := have c := s.look 35; He.noat_ok c
  na_Pattern_own_text := have c := s.look 36; He.noat_ok c
  is_str_Pattern := have c := s.look 37; isB_ok c
  is_int_Pattern := have c := s.look 38; isB_ok c
  is_bool_Pattern := have c := s.look 39; isB_ok c
  is_list_Pattern := have c := s.look 40; isB_ok c
  is_tuple_Pattern := have c := s.look 41; isB_ok c
  is_NoneType_Pattern := have c := s.look 42; isB_ok c
  is_dict_Pattern := have c := s.look 43; isB_ok c
  is_Pattern_str := have c := s.look 44; isB_ok c
  is_Pattern_int := have c := s.look 45; isB_ok c
  is_Pattern_bool := have c := s.look 46; isB_ok c
  is_Pattern_list := have c := s.look 47; isB_ok c
  is_Pattern_tuple := have c := s.look 48; isB_ok c
  is_Pattern_dict := have c := s.look 49; isB_ok c
  is_Pattern_Pattern := have c := s.look 50; isB_ok c
  is_Pattern_Row := have c := s.look 51; isB_ok c
  g_Row := have c := s.look 52; He.glo_ok X G c
  c_Row := have c := s.look 53; He.cls_ok c
  mk_Row := have c := s.look 54; He.mkr_ok c
  ty_Row := have c := s.look 55; c
  nq_Row := have c := s.look 56; c
  ss_Row := have c := s.look 57; of_decide_eq_true c
  nn_Row := have c := s.look 58; He.eqO_ok c
  mo_Row := have c := s.look 59; of_decide_eq_true c
  na_Row_own_far := have c := s.look 60; He.noat_ok c
  na_Row_own_told := have c := s.look 61; He.noat_ok c
  is_str_Row := have c := s.look 62; isB_ok c
  is_int_Row := have c := s.look 63; isB_ok c
  is_bool_Row := have c := s.look 64; isB_ok c
  is_list_Row := have c := s.look 65; isB_ok c
  is_tuple_Row := have c := s.look 66; isB_ok c
  is_NoneType_Row := have c := s.look 67; isB_ok c
  is_dict_Row := have c := s.look 68; isB_ok c
  is_Row_str := have c := s.look 69; isB_ok c
  is_Row_int := have c := s.look 70; isB_ok c
  is_Row_bool := have c := s.look 71; isB_ok c
  is_Row_list := have c := s.look 72; isB_ok c
  is_Row_tuple := have c := s.look 73; isB_ok c
  is_Row_dict := have c := s.look 74; isB_ok c
  is_Row_Pattern := have c := s.look 75; isB_ok c
  is_Row_Row := have c := s.look 76; isB_ok c
  is_str_str := have c := s.look 77; isB_ok c
  is_str_int := have c := s.look 78; isB_ok c
  is_str_bool := have c := s.look 79; isB_ok c
  is_str_list := have c := s.look 80; isB_ok c
  is_str_tuple := have c := s.look 81; isB_ok c
  is_str_dict := have c := s.look 82; isB_ok c
  is_int_str := have c := s.look 83; isB_ok c
  is_int_int := have c := s.look 84; isB_ok c
  is_int_bool := have c := s.look 85; isB_ok c
  is_int_list := have c := s.look 86; isB_ok c
  is_int_tuple := have c := s.look 87; isB_ok c
  is_int_dict := have c := s.look 88; isB_ok c
  is_bool_str := have c := s.look 89; isB_ok c
  is_bool_int := have c := s.look 90; isB_ok c
  is_bool_bool := have c := s.look 91; isB_ok c
  is_bool_list := have c := s.look 92; isB_ok c
  is_bool_tuple := have c := s.look 93; isB_ok c
  is_bool_dict := have c := s.look 94; isB_ok c
  is_list_str := have c := s.look 95; isB_ok c
  is_list_int := have c := s.look 96; isB_ok c
  is_list_bool := have c := s.look 97; isB_ok c
  is_list_list := have c := s.look 98; isB_ok c
  is_list_tuple := have c := s.look 99; isB_ok c
  is_list_dict := have c := s.look 100; isB_ok c
  is_tuple_str := have c := s.look 101; isB_ok c
  is_tuple_int := have c := s.look 102; isB_ok c
  is_tuple_bool := have c := s.look 103; isB_ok c
  is_tuple_list := have c := s.look 104; isB_ok c
  is_tuple_tuple := have c := s.look 105; isB_ok c
  is_tuple_dict := have c := s.look 106; isB_ok c
  is_NoneType_str := have c := s.look 107; isB_ok c
  is_NoneType_int := have c := s.look 108; isB_ok c
  is_NoneType_bool := have c := s.look 109; isB_ok c
  is_NoneType_list := have c := s.look 110; isB_ok c
  is_NoneType_tuple := have c := s.look 111; isB_ok c
  is_NoneType_dict := have c := s.look 112; isB_ok c
  is_dict_str := have c := s.look 113; isB_ok c
  is_dict_int := have c := s.look 114; isB_ok c
  is_dict_bool := have c := s.look 115; isB_ok c
  is_dict_list := have c := s.look 116; isB_ok c
  is_dict_tuple := have c := s.look 117; isB_ok c
  is_dict_dict := have c := s.look 118; isB_ok c
  m_Pattern_filled := have c := s.look 119; He.meth_ok c
  m_Pattern_width := have c := s.look 120; He.meth_ok c
  m_Pattern_want_room := have c := s.look 121; He.meth_ok c
  m_Pattern_add := have c := s.look 122; He.meth_ok c
  m_Pattern_radd := have c := s.look 123; He.meth_ok c
  m_Pattern_len := have c := s.look 124; He.meth_ok c
  m_Pattern_str := have c := s.look 125; He.meth_ok c
  m_Pattern_repr := have c := s.look 126; He.meth_ok c
  m_Pattern_eq := have c := s.look 127; He.meth_ok c
  m_Row_set_far := have c := s.look 128; He.meth_ok c
  m_Row_word_at := have c := s.look 129; He.meth_ok c
  m_Row_has_pattern := have c := s.look 130; He.meth_ok c
  m_Row_width := have c := s.look 131; He.meth_ok c
  m_Row_told := have c := s.look 132; He.meth_ok c
  m_Row_widths := have c := s.look 133; He.meth_ok c
  m_Row_forward_fault := have c := s.look 134; He.meth_ok c
  m_Row_backward_fault := have c := s.look 135; He.meth_ok c
  m_Row_copy := have c := s.look 136; He.meth_ok c
  m_Row_is_narrow_beside := have c := s.look 137; He.meth_ok c
  m_Row_getitem := have c := s.look 138; He.meth_ok c
  m_Row_setitem := have c := s.look 139; He.meth_ok c
  m_Row_iter := have c := s.look 140; He.meth_ok c
  m_Row_len := have c := s.look 141; He.meth_ok c
  m_Row_eq := have c := s.look 142; He.meth_ok c
  m_Row_le := have c := s.look 143; He.meth_ok c
  m_Row_lt := have c := s.look 144; He.meth_ok c
  k_MOST_CHARACTERS := have c := s.look 145; He.int_ok X G c
  k_BLANK := have c := s.look 146; He.str_ok X G c
  k_HASH := have c := s.look 147; He.str_ok X G c
  g_NOT_IN_WORDS := have c := s.look 148; He.glo_ok X G c
  k_NOT_IN_WORDS := have c := s.look 149; fun H => He.tupB_ok c H
  k_MOST_TOLD := have c := s.look 150; He.int_ok X G c
  b_abs := have c := s.look 151; He.free_ok X G c
  b_all := have c := s.look 152; He.free_ok X G c
  b_bool := have c := s.look 153; He.free_ok X G c
  b_divmod := have c := s.look 154; He.free_ok X G c
  b_enumerate := have c := s.look 155; He.free_ok X G c
  b_int := have c := s.look 156; He.free_ok X G c
  b_isinstance := have c := s.look 157; He.free_ok X G c
  b_len := have c := s.look 158; He.free_ok X G c
  b_list := have c := s.look 159; He.free_ok X G c
  b_max := have c := s.look 160; He.free_ok X G c
  b_min := have c := s.look 161; He.free_ok X G c
  b_ord := have c := s.look 162; He.free_ok X G c
  b_range := have c := s.look 163; He.free_ok X G c
  b_repr := have c := s.look 164; He.free_ok X G c
  b_str := have c := s.look 165; He.free_ok X G c
  b_tuple := have c := s.look 166; He.free_ok X G c
  b_zip := have c := s.look 167; He.free_ok X G c
  e_Row_init_0 := have c := s.look 168; fun H => tupAt_ok c H
  et_Row_init_0 := have c := s.look 169; fun H => tupAt_ty c H
end Tx
set_option maxHeartbeats 0
namespace Hd
open PySem PySem.Spec PyProof.Rows L2 Eb
abbrev R : PySem.W.OpenRow := PySem.W.OpenLaw.row PySem.Challenge.rw_everysettles_k14_whole_rows_in_order
abbrev hk : PySem.W.Hook := hookX 5 Tx.looks Tx.defns
def ob (s : PySem.W.SharedT) : He.AlD := obsXG 5 Tx.looks Tx.defns (HandSHeadRun.getT s)
theorem ob_eq (s : PySem.W.SharedT) : ob s = hk.obs s.abs := obsXG_eq (HandSHeadRun.getT_eq s)
def loose : List Str := (["_wall", "SettleError", "LimitError", "InvalidWord", "InvalidPattern", "InvalidDistance", "InvalidCount", "InvalidRow", "TooMany", "MOST_CHARACTERS", "BLANK", "HASH", "NOT_IN_WORDS", "is_integer", "is_count", "is_list", "is_character", "is_word", "is_pattern_text", "Pattern", "MOST_TOLD", "is_far", "want_distance", "Row", "_law_rng", "_law_draw", "_law_choice", "_law_word", "_law_any_word", "_law_pattern_text"] : List Str) ++ (["_law_plan", "_law_far", "_law_real", "_law_at", "_law_widths", "_law_is_below", "_law_wider", "_law_pair_right", "_law_changed_right", "_law_told_more_right", "_law_right"] : List Str)
theorem run (w : World) : HandSHeadRun.RunEq R (PySem.W.view R.prog [45]) hk ob 20000 loose w := by
  intro os
  kernel_rfl
end Hd
set_option maxHeartbeats 4000000
namespace K15
open PySem PySem.Spec PyProof.Rows L2 Eb
/-- the law's numbers: at r a list of two -/
def RngAt (H : Hp) (r : Addr) : Prop := ∃ a b : Int, H r = some (.lst [.int a, .int b]) ∧ 0 ≤ a ∧ 0 ≤ b ∧ b < 2147483648
theorem RngAt.ne {H : Hp} {r p : Addr} (h : RngAt H r) (n : H p = none) : p ≠ r := fun e => by
  obtain ⟨a, b, h1, _⟩ := h
  rw [← e, n] at h1
  cases h1
theorem RngAt.new {H : Hp} {r p : Addr} {o : HO} (h : RngAt H r) (n : H p = none) : RngAt (upd H p o) r := by
  obtain ⟨a, b, h1, h2⟩ := id h
  exact ⟨a, b, by rw [upd_ne (RngAt.ne h n).symm]; exact h1, h2⟩
def spDraw : Sp := fun vs H Q _ => ∃ (r : Addr) (n : Int), vs = [.ref r, .int n] ∧ RngAt H r ∧ 0 < n ∧ n < 2 ^ 62 ∧ ∀ (d : Int) (H' : Hp), 0 ≤ d → d < n → Ext [r] H H' → RngAt H' r → Q (.int d) H'
def spRng (K : PySem.W.Frag) : Sp := fun vs H Q _ => ∃ (a : Addr) (ns : List Int) (k : Int), vs = [.ref a, .int k] ∧ SqL K H a (ns.map V.int) ∧ 0 ≤ k ∧ k < 100 ∧ ∀ (r : Addr) (H' : Hp), H r = none → Same H H' → RngAt H' r → Q (.ref r) H'
theorem div_small {i j : Int} (h0 : 0 < j) (h1 : j < 2 ^ 62) : CDivP i j := by
  refine ⟨h0, ?_⟩
  unfold Builtin.divisionGoesByPylong
  have e : j.natAbs.log2 < 63 := by
    refine Nat.log2_lt (by omega) |>.mpr ?_
    have : (j.natAbs : Int) = j := Int.natAbs_of_nonneg (by omega)
    have h2 : (j.natAbs : Int) < 2 ^ 62 := by rw [this]; exact h1
    have h3 : j.natAbs < 2 ^ 62 := by exact_mod_cast h2
    omega
  have e2 : (if (j == 0) = true then 0 else j.natAbs.log2 / 30 + 1) ≤ 300 := by
    split <;> omega
  simp only [Bool.and_eq_false_iff, decide_eq_false_iff_not]
  left
  omega
section
variable {P : Program} {w : World} {K : PySem.W.Frag} {mg : Str → Option Value} {base : Heap}
theorem ok__law_draw (T : Tx.TX K mg) : C8.Cal P w K mg base 1 "_law_draw" (spDraw) [] := by
  refine calD (k := 0) T.d__law_draw T.g__law_draw Tx.sc__law_draw (fun _ _ _ _ _ _ us hl => match us, hl with | [_, _], _ => rfl) ?len ?run
  case len => rintro vs H Q E ⟨r, n, rfl, _⟩; rfl
  case run =>
    rintro cdv A outer s H vs Q E hr ⟨r, n, rfl, ⟨a, b, hR, ha, hb, hb2⟩, n0, n1, q⟩
    refine ⟨_, by exact (pss_cons (ps_if (pt_cmpR op_gt (pe_ix ix_list (pv 0) pe_int (fun _ _ => rfl)) pe_int (nomark _)) (pss_cons (ps_asg (pe_callB call_divmodW (by rfl) T.b_divmod (by decide +kernel) (pa_cons (pe_ix ix_list (pv 0) pe_int (fun _ _ => rfl)) (pa_cons (pv 1) pa_nil))) (pg_tup rfl (pgs_cons (pg_sub (pv 0) pe_int set_list) (pgs_cons (pg_name (i := 2) Tx.sc__law_draw.nd rfl (Or.inl rfl)) pgs_nil)))) (pss_one (ps_ret (pv 2)))) pss_nil) (pss_cons (ps_asg (pe_op op_mod (pe_callTy call_int1 (by rfl) T.b_int (by decide +kernel) (pa_cons (pe_op op_add (pe_op op_mul (pe_ix ix_list (pv 0) pe_int (fun _ _ => rfl)) pe_int) pe_int) pa_nil)) pe_int) (pg_sub (pv 0) pe_int set_list)) (pss_one (ps_ret (pe_op op_mod (pe_callTy call_int1 (by rfl) T.b_int (by decide +kernel) (pa_cons (pe_op op_fdiv (pe_op op_mod (pe_callTy call_int1 (by rfl) T.b_int (by decide +kernel) (pa_cons (pe_op op_mul (pe_ix ix_list (pv 0) pe_int (fun _ _ => rfl)) (pe_ix ix_list (pv 0) pe_int (fun _ _ => rfl))) pa_nil)) pe_int) pe_int) pa_nil)) (pv 1)))))), ?_⟩
    have m0 : (0 : Int) ≤ (b * 39373 + 9967) % 2147483629 := Int.emod_nonneg _ (by decide)
    have m1 : (b * 39373 + 9967) % 2147483629 < 2147483629 := Int.emod_lt_of_pos _ (by decide)
    refine ⟨_, rfl, r, _, 0, .int a, rfl, rfl, SqL.of hR, rfl, _, _, rfl, rfl, _, rfl, ?_⟩
    by_cases c : (0 : Int) < a
    · refine itT (dT c) ?_
      refine ⟨_, rfl, r, _, 0, .int a, rfl, rfl, SqL.of hR, rfl, _, rfl, a, n, rfl, div_small n0 n1, fun p np => ?_⟩
      have ne : r ≠ p := ne_of_none hR np
      refine ⟨p, _, rfl, SqT.of upd_same, rfl, _, _, rfl, ⟨_, rfl, r, _, 0, 0, rfl, rfl, (by rw [upd_ne ne]; exact hR), rfl, _, _, rfl, rfl, ?_⟩⟩
      refine ⟨_, rfl, q _ _ (Int.emod_nonneg _ (by omega)) (Int.emod_lt_of_pos _ n0) ?_ ⟨a / n, b, upd_same, Int.ediv_nonneg ha (by omega), hb, hb2⟩⟩
      exact (Ext.new np).trans (Ext.put mem1)
    · refine itF (dF c) ?_
      refine ⟨_, rfl, r, _, 1, .int b, rfl, rfl, SqL.of hR, rfl, _, _, rfl, rfl, .inl ⟨by omega, by omega⟩, _, _, rfl, rfl, .inl ⟨_, rfl, _, _, rfl, rfl, (by show (0 : Int) < 2147483629; decide), _, rfl, r, _, 1, 1, rfl, rfl, hR, rfl, ?_⟩⟩
      have hR2 : (upd H r (.lst ([V.int a, .int b].set 1 (.int ((b * 39373 + 9967) % 2147483629))))) r = some (.lst [V.int a, .int ((b * 39373 + 9967) % 2147483629)]) := upd_same
      refine ⟨_, rfl, r, _, 1, _, rfl, rfl, SqL.of hR2, rfl, _, rfl, r, _, 1, _, rfl, rfl, SqL.of hR2, rfl, _, _, rfl, rfl, .inl ⟨by omega, by omega⟩, .inl ⟨_, rfl, _, _, rfl, rfl, (by show (0 : Int) < 2147483563; decide), _, _, rfl, rfl, ⟨by decide, by decide⟩, .inl ⟨_, rfl, _, rfl, _, n, rfl, rfl, n0, ?_⟩⟩⟩
      exact q _ _ (Int.emod_nonneg _ (by omega)) (Int.emod_lt_of_pos _ n0) (Ext.put mem1) ⟨a, _, hR2, ha, m0, by omega⟩
theorem ok__law_rng (T : Tx.TX K mg) : C8.Cal P w K mg base 1 "_law_rng" (spRng K) [] := by
  refine calD (k := 0) T.d__law_rng T.g__law_rng Tx.sc__law_rng (fun _ _ _ _ _ _ us hl => match us, hl with | [_, _], _ => rfl) ?len ?run
  case len => rintro vs H Q E ⟨r, n, k, rfl, _⟩; rfl
  case run =>
    rintro cdv A outer s H vs Q E hr ⟨a, ns, k, rfl, hS, k0, k1, q⟩
    refine ⟨_, by exact (pss_cons (ps_set (i := 2) Tx.sc__law_rng.nd rfl (Or.inl rfl) (pe_j (pe_ifExp (pt_cmpR op_lt (pv 1) (pe_callB call_len_seq (by rfl) T.b_len (by decide +kernel) (pa_cons (pv 0) pa_nil)) (nomark _)) (pe_ix ix_list (pv 0) (pv 1) (fun _ _ => rfl)) (pe_op op_add (pe_op op_mul pe_int (pv 1)) pe_int)))) (pss_one (ps_ret (pe_lst (pa_cons (pe_callB (call_max2 rfl) (by rfl) T.b_max (by decide +kernel) (pa_cons pe_int (pa_cons (pe_op op_sub (pe_callB call_abs (by rfl) T.b_abs (by decide +kernel) (pa_cons (pv 2) pa_nil)) (pe_op op_pow pe_int pe_int)) pa_nil))) (pa_cons (pe_op op_add (pe_op op_mod (pe_callTy call_int1 (by rfl) T.b_int (by decide +kernel) (pa_cons (pe_op op_add (pe_op op_add (pe_op op_mul (pe_op op_mod (pe_callTy call_int1 (by rfl) T.b_int (by decide +kernel) (pa_cons (pe_callB call_abs (by rfl) T.b_abs (by decide +kernel) (pa_cons (pv 2) pa_nil)) pa_nil)) pe_int) pe_int) (pe_op op_mul pe_int (pv 1))) pe_int) pa_nil)) pe_int) pe_int) pa_nil)))))), ?_⟩
    refine ⟨fun v H' => (∃ c, v = .int c) ∧ H' = H, ⟨_, rfl, _, rfl, a, _, rfl, .inl hS, _, _, rfl, rfl, _, rfl, it2 (fun c => ?_) (fun c => ?_)⟩, ?_⟩
    · have c' := of_decide_eq_true c
      rw [List.length_map] at c'
      have hk : k.toNat < ns.length := by omega
      exact ⟨_, rfl, _, rfl, a, _, k, .int ns[k.toNat], rfl, rfl, hS, at_of (j := k.toNat) (by omega) (by rw [List.getElem?_map, List.getElem?_eq_getElem hk]; rfl), ⟨_, rfl⟩, rfl⟩
    · exact ⟨_, rfl, _, _, rfl, rfl, .inl ⟨by decide, by decide⟩, _, _, rfl, rfl, ⟨_, rfl⟩, rfl⟩
    · rintro v H' ⟨⟨c, rfl⟩, rfl⟩
      have m0 : ∀ z : Int, (0 : Int) ≤ z % 2147483549 := fun z => Int.emod_nonneg _ (by decide)
      have m1 : ∀ z : Int, z % 2147483549 < 2147483549 := fun z => Int.emod_lt_of_pos _ (by decide)
      refine ⟨_, rfl, _, rfl, _, _, rfl, rfl, ⟨by decide, by decide, by decide⟩, _, _, rfl, rfl, _, _, rfl, ?_⟩
      refine ⟨_, rfl, _, rfl, .inl ⟨_, rfl, _, _, rfl, rfl, (by show (0 : Int) < 2147483549; decide), _, _, rfl, rfl, .inr ⟨by decide, by decide⟩, _, rfl, _, _, rfl, rfl, .inl ⟨by decide, by decide⟩, _, _, rfl, rfl, _, _, rfl, rfl, .inl ⟨_, rfl, _, _, rfl, rfl, (by show (0 : Int) < 2147483629; decide), _, _, rfl, rfl, (by show 2 ≤ sizeLine; decide), fun r hr => ?_⟩⟩⟩
      refine q r _ hr (Ext.same (Ext.new hr)) ⟨_, _, upd_same, ?_, ?_, ?_⟩
      · split <;> omega
      · have := Int.emod_nonneg ((if c < 0 then -c else c) % 2147483549 * 48271 + 7907 * k + 37) (show (2147483629 : Int) ≠ 0 by decide)
        omega
      · have := Int.emod_lt_of_pos ((if c < 0 then -c else c) % 2147483549 * 48271 + 7907 * k + 37) (show (0 : Int) < 2147483629 by decide)
        omega
/-- a choice among the items of a list -/
def spPick (K : PySem.W.Frag) : Sp := fun vs H Q _ => ∃ (r l : Addr) (xs : List V), vs = [.ref r, .ref l] ∧ RngAt H r ∧ l ≠ r ∧ H l = some (.lst xs) ∧ 0 < xs.length ∧ xs.length ≤ 1000 ∧ ∀ (v : V) (H' : Hp), v ∈ xs → Ext [r] H H' → RngAt H' r → Q v H'
/-- a sign of a text -/
def spSign : Sp := fun vs H Q _ => ∃ (r : Addr) (z : Str), vs = [.ref r, .str z] ∧ RngAt H r ∧ 0 < z.length ∧ z.length ≤ 1000 ∧ ∀ (c : Nat) (H' : Hp), c ∈ z.cps.toList → Ext [r] H H' → RngAt H' r → Q (.str ⟨#[c]⟩) H'
def spChoice (K : PySem.W.Frag) : Sp := fun vs H Q E => spPick K vs H Q E ∨ spSign vs H Q E
theorem sz1000 {n : Nat} (h : n ≤ 1000) : n ≤ sizeLine := Nat.le_trans h (by decide)
theorem ok__law_choice (T : Tx.TX K mg) : C8.Cal P w K mg base 2 "_law_choice" (spChoice K) [] := by
  refine calD (k := 1) T.d__law_choice T.g__law_choice Tx.sc__law_choice (fun _ _ _ _ _ _ us hl => match us, hl with | [_, _], _ => rfl) ?len ?run
  case len => rintro vs H Q E (⟨r, l, xs, rfl, _⟩ | ⟨r, z, rfl, _⟩) <;> rfl
  case run =>
    rintro cdv A outer s H vs Q E hr h
    refine ⟨_, by exact (pss_one (ps_ret (pe_ix (ix_or ix_list ix_str) (pv 1) (C8.pe_c (ok__law_draw T) hr (by decide) rfl (pa_cons (pv 0) (pa_cons (pe_callB (call_or call_len_seq call_len_str) (by rfl) T.b_len (by decide +kernel) (pa_cons (pv 1) pa_nil)) pa_nil))) (fun _ _ => rfl)))), ?_⟩
    rcases h with ⟨r, l, xs, rfl, hR, ne, hl, h0, h1, q⟩ | ⟨r, z, rfl, hR, h0, h1, q⟩
    · refine ⟨_, rfl, _, rfl, _, rfl, .inl ⟨l, xs, rfl, .inl (SqL.of hl), r, xs.length, rfl, hR, by omega, by omega, fun d H' d0 d1 e hR' => .inl ?_⟩⟩
      have hd : d.toNat < xs.length := by omega
      exact ⟨l, xs, d, xs[d.toNat], rfl, rfl, SqL.of (e l _ (by simpa using ne) hl), at_of (j := d.toNat) (by omega) (List.getElem?_eq_getElem hd), q _ H' (List.getElem_mem hd) e hR'⟩
    · refine ⟨_, rfl, _, rfl, _, rfl, .inr ⟨z, rfl, sz1000 h1, r, z.length, rfl, hR, by omega, by omega, fun d H' d0 d1 e hR' => .inr ?_⟩⟩
      have hd : d.toNat < z.cps.toList.length := by
        have : z.cps.toList.length = z.length := by simp [Str.length]
        omega
      exact ⟨z, d, z.cps.toList[d.toNat], rfl, rfl, sz1000 h1, at_g (j := d.toNat) (by omega) (List.getElem?_eq_getElem hd), q _ H' (List.getElem_mem hd) e hR'⟩
end
end K15
set_option maxHeartbeats 4000000
namespace K15
open PySem PySem.Spec PyProof.Rows L2 Eb
/-! ## words and patterns as texts -/
/-- a sign that can stand in words -/
def okC (c : Nat) : Bool := decide (32 ≤ c ∧ c ≤ 126 ∧ c ≠ 34 ∧ c ≠ 35 ∧ c ≠ 37 ∧ c ≠ 92)
def wdB (z : Str) : Bool := decide (z.length ≤ 20) && z.cps.toList.all okC
/-- what is no text -/
def NoStr (K : PySem.W.Frag) (H : Hp) (v : V) : Prop := ∃ t, TyX K H v t ∧ PySem.W.kitOne K t (.type "str") = some false
def spIsChar : Sp := fun vs H Q _ => ∃ c : Nat, vs = [.str ⟨#[c]⟩] ∧ Q (.bl (okC c)) H
def spIsWord (K : PySem.W.Frag) : Sp := fun vs H Q _ => ∃ v, vs = [v] ∧ ((∃ z : Str, v = .str z ∧ z.length ≤ 1000 ∧ ∀ H', Ext [] H H' → Q (.bl (wdB z)) H') ∨ (NoStr K H v ∧ Q (.bl false) H))
theorem cps_len (z : Str) : z.cps.toList.length = z.length := by simp [Str.length]
theorem take_succ' {α : Type} {l : List α} {i : Nat} {x : α} (h : l[i]? = some x) : l.take (i + 1) = l.take i ++ [x] := by
  rw [List.take_succ, h]; rfl
section
variable {P : Program} {w : World} {K : PySem.W.Frag} {mg : Str → Option Value} {base : Heap}
theorem ok_is_character (T : Tx.TX K mg) : C8.Cal P w K mg base 1 "is_character" (spIsChar) [] := by
  refine calD (k := 0) T.d_is_character T.g_is_character Tx.sc_is_character (fun _ _ _ _ _ _ us hl => match us, hl with | [_], _ => rfl) ?len ?run
  case len => rintro vs H Q E ⟨c, rfl, _⟩; rfl
  case run =>
    rintro cdv A outer s H vs Q E hr ⟨c, rfl, q⟩
    refine ⟨_, by exact (pss_one (ps_ret (pe_and (pe_chain op_le op_le pe_int (pe_callB call_ord (by rfl) T.b_ord (by decide +kernel) (pa_cons (pv 0) pa_nil)) pe_int) (pe_one (pe_cmpR op_notIn_seq (pe_callB call_ord (by rfl) T.b_ord (by decide +kernel) (pa_cons (pv 0) pa_nil)) (pe_gr T.g_NOT_IN_WORDS) (by rfl)))))), ?_⟩
    have hc : ∀ b : Bool, b = okC c → Q (.bl b) H := fun b e => by rw [e]; exact q
    have ec : ((⟨#[c]⟩ : Str).cps.getD 0 0 : Nat) = c := rfl
    refine ⟨_, rfl, ⟨#[c]⟩, rfl, rfl, _, _, rfl, rfl, _, rfl, it2 (fun h1 => ?_) (fun h1 => ?_)⟩
    · have h1' := of_decide_eq_true h1
      refine ⟨_, _, rfl, rfl, _, rfl, it2 (fun h2 => ?_) (fun h2 => ?_)⟩
      · have h2' := of_decide_eq_true h2
        refine ⟨_, rfl, ⟨#[c]⟩, rfl, rfl, _, _, rfl, .inr (T.k_NOT_IN_WORDS H), rfl, rfl, hc _ ?_⟩
        rw [ec] at h1' h2'
        rw [Bool.eq_iff_iff]
        simp only [okC, inV, eqV, ec, List.any_cons, List.any_nil, if_true, Bool.not_eq_true', Bool.or_eq_false_iff, beq_eq_false_iff_ne, decide_eq_true_eq, and_true]
        constructor
        · rintro ⟨a1, a2, a3, a4⟩; exact ⟨by omega, by omega, by omega, by omega, by omega, by omega⟩
        · rintro ⟨_, _, a1, a2, a3, a4⟩; exact ⟨by omega, by omega, by omega, by omega⟩
      · have h2' := of_decide_eq_false h2
        rw [ec] at h2'
        exact hc _ (by simp only [okC]; symm; apply decide_eq_false; omega)
    · have h1' := of_decide_eq_false h1
      rw [ec] at h1'
      exact ⟨_, rfl, itF rfl (hc _ (by simp only [okC]; symm; apply decide_eq_false; omega))⟩
theorem ok_is_word (T : Tx.TX K mg) : C8.Cal P w K mg base 2 "is_word" (spIsWord K) [] := by
  refine calD (k := 1) T.d_is_word T.g_is_word Tx.sc_is_word (fun _ _ _ _ _ _ us hl => match us, hl with | [_], _ => rfl) ?len ?run
  case len => rintro vs H Q E ⟨v, rfl, _⟩; rfl
  case run =>
    rintro cdv A outer s H vs Q E hr ⟨v, rfl, h⟩
    refine ⟨_, by exact (pss_cons (ps_if (PW.pt (pw_or (pt_not (pt_val (pe_callB call_isi (by rfl) T.b_isinstance (by decide +kernel) (pa_cons (pv 0) (pa_cons (pe_ty (T := "str") T.b_str (by decide +kernel)) pa_nil))))) (pw_or1 (pt_cmpR op_gt (pe_callB call_len_str (by rfl) T.b_len (by decide +kernel) (pa_cons (pv 0) pa_nil)) (pe_gi T.k_MOST_CHARACTERS) (nomark _))))) (pss_one (ps_ret pe_bl)) pss_nil) (pss_one (ps_ret (pe_callB (cr_all rfl) (by rfl) T.b_all (by decide +kernel) (pa_cons (pe_lc (own := [("sign", 1)]) (g := gName 1) (tt := tYes) rfl Tx.sc_is_word.nd (pi_str (pv 0)) (blkOk_by (own := [("sign", 1)]) (N := Tx.N_is_word) (sc := defScope Tx.s_is_word) (by decide +kernel)) (fun _ _ _ _ _ => (pg_name (i := 1) Tx.sc_is_word.nd rfl (Or.inl rfl))) (fun _ _ _ _ _ => pts_nil) (fun _ _ _ _ _ => (C8.pe_c (ok_is_character T) hr (by decide) rfl (pa_cons (pv 1) pa_nil)))) pa_nil))))), ?_⟩
    rcases h with ⟨z, rfl, hz, q⟩ | ⟨⟨t, ht, hk⟩, q⟩
    · refine ⟨_, rfl, _, _, _, _, true, rfl, .ty _, .base (.str z), T.is_str_str, _, rfl, itF rfl ?_⟩
      refine ⟨_, rfl, z, rfl, sz1000 hz, _, _, rfl, rfl, _, rfl, it2 (fun h1 => ?_) (fun h1 => ?_)⟩
      · have h1' := of_decide_eq_true h1
        have e : wdB z = false := by
          unfold wdB
          rw [decide_eq_false (by omega)]; rfl
        rw [← e]
        exact q H (Ext.refl H)
      · have h1' := of_decide_eq_false h1
        refine ⟨_, rfl, z, rfl, fun D hD => lc_it walk_str (fun i H' => H' D = some (.lst (((z.cps.toList.take i).map okC).map V.bl)) ∧ Ext [] H H') ⟨upd_same, Ext.new hD⟩ (fun _ _ _ _ => trivial) ?_ ?_⟩
        · rintro i x H1 H2 hi ⟨h1, h2⟩ ⟨rfl, c, hc, rfl⟩
          have hc' : z.cps.toList[i]? = some c := by simpa using hc
          refine ⟨rfl, _, rfl, c, rfl, _, h1, ?_, ?_, Ext.mut h2 hD⟩
          · rw [List.length_map, List.length_map, List.length_take, cps_len]
            exact Nat.lt_of_le_of_lt (Nat.min_le_right _ _) (Nat.lt_of_le_of_lt hz (by decide))
          · rw [upd_same, take_succ' hc', List.map_append, List.map_append]; rfl
        · rintro H1 ⟨h1, h2⟩
          refine ⟨D, _, rfl, SqL.of h1, ?_⟩
          have e : ((z.cps.toList.take z.cps.size).map okC).all id = wdB z := by
            unfold wdB
            rw [decide_eq_true (by omega), Bool.true_and, List.take_of_length_le (by simp), List.all_map]
            rfl
          rw [e]
          exact q H1 h2
    · exact ⟨_, rfl, _, _, _, _, false, rfl, .ty _, ht, hk, _, rfl, itT rfl (itT rfl q)⟩
/-- the text of a pattern -/
def patB (z : Str) : Bool := decide (z.length ≤ 20) && (decide ((z.cps.toList.filter (· != 35)).length + 1 = z.length) && (z.cps.toList.filter (· != 35)).all okC)
def spIsPat : Sp := fun vs H Q _ => ∃ z : Str, vs = [.str z] ∧ z.length ≤ 1000 ∧ ∀ H', Ext [] H H' → Q (.bl (patB z)) H'
def sg (c : Nat) : V := .str ⟨#[c]⟩
theorem ne_hash (c : Nat) : (!decide (V.str ⟨#[c]⟩ = V.str (PySem.Str.ofString "#"))) = (c != 35) := by
  rw [hash_eq]
  by_cases h : c = 35
  · subst h; simp
  · have : ¬ V.str ⟨#[c]⟩ = V.str ⟨#[35]⟩ := fun z => h (by simpa using z)
    rw [decide_eq_false this]
    simpa using h
theorem ok_is_pattern_text (T : Tx.TX K mg) : C8.Cal P w K mg base 2 "is_pattern_text" (spIsPat) [] := by
  refine calD (k := 1) T.d_is_pattern_text T.g_is_pattern_text Tx.sc_is_pattern_text (fun _ _ _ _ _ _ us hl => match us, hl with | [_], _ => rfl) ?len ?run
  case len => rintro vs H Q E ⟨c, rfl, _⟩; rfl
  case run =>
    rintro cdv A outer s H vs Q E hr ⟨z, rfl, hz, q⟩
    refine ⟨_, by exact (pss_cons (ps_if (PW.pt (pw_or (pt_not (pt_val (pe_callB call_isi (by rfl) T.b_isinstance (by decide +kernel) (pa_cons (pv 0) (pa_cons (pe_ty (T := "str") T.b_str (by decide +kernel)) pa_nil))))) (pw_or1 (pt_cmpR op_gt (pe_callB call_len_str (by rfl) T.b_len (by decide +kernel) (pa_cons (pv 0) pa_nil)) (pe_gi T.k_MOST_CHARACTERS) (nomark _))))) (pss_one (ps_ret pe_bl)) pss_nil) (pss_cons (ps_setLc (i := 1) (own := [("sign", 2)]) (g := gName 2) rfl Tx.sc_is_pattern_text.nd rfl rfl (sw_true rfl rfl rfl (by decide +kernel)) (pi_str (pv 0)) (blkOk_by (own := [("sign", 2)]) (N := Tx.N_is_pattern_text) (sc := defScope Tx.s_is_pattern_text) (by decide +kernel)) (fun _ _ _ _ _ => (pg_name (i := 2) Tx.sc_is_pattern_text.nd rfl (Or.inl rfl))) (fun _ _ _ _ _ => (pts_one (pt_cmpR op_ne (pv 2) (pe_gs T.k_HASH) (nomark _)))) (fun _ _ _ _ _ => (pv 2))) (pss_one (ps_ret (pe_and (pe_cmpR op_eq (pe_callB call_len_seq (by rfl) T.b_len (by decide +kernel) (pa_cons (pv 1) pa_nil)) (pe_op op_sub (pe_callB call_len_str (by rfl) T.b_len (by decide +kernel) (pa_cons (pv 0) pa_nil)) pe_int) (nomark _)) (pe_one (pe_callB (cr_all rfl) (by rfl) T.b_all (by decide +kernel) (pa_cons (pe_lc (own := [("sign", 2)]) (g := gName 2) (tt := tYes) rfl Tx.sc_is_pattern_text.nd (pi_list (pv 1)) (blkOk_by (own := [("sign", 2)]) (N := Tx.N_is_pattern_text) (sc := defScope Tx.s_is_pattern_text) (by decide +kernel)) (fun _ _ _ _ _ => (pg_name (i := 2) Tx.sc_is_pattern_text.nd rfl (Or.inl rfl))) (fun _ _ _ _ _ => pts_nil) (fun _ _ _ _ _ => (C8.pe_c (ok_is_character T) hr (by decide) rfl (pa_cons (pv 2) pa_nil)))) pa_nil)))))))), ?_⟩
    refine ⟨_, rfl, _, _, _, _, true, rfl, .ty _, .base (.str z), T.is_str_str, _, rfl, itF rfl ?_⟩
    refine ⟨_, rfl, z, rfl, sz1000 hz, _, _, rfl, rfl, _, rfl, it2 (fun h1 => ?_) (fun h1 => ?_)⟩
    · have h1' := of_decide_eq_true h1
      have e : patB z = false := by unfold patB; rw [decide_eq_false (by omega)]; rfl
      rw [← e]
      exact q H (Ext.refl H)
    · have h1' := of_decide_eq_false h1
      have le : ∀ i, ((z.cps.toList.take i).filter (· != 35)).length ≤ 1000 := fun i => by
        refine Nat.le_trans (List.length_filter_le _ _) ?_
        rw [List.length_take, cps_len]
        omega
      refine ⟨_, rfl, z, rfl, fun D hD => lc_it walk_str (fun i H' => H' D = some (.lst (((z.cps.toList.take i).filter (· != 35)).map sg)) ∧ Ext [] H H') ⟨upd_same, Ext.new hD⟩ (fun _ _ _ _ => trivial) ?_ ?_⟩
      · rintro i x H1 H2 hi ⟨h1, h2⟩ ⟨rfl, c, hc, rfl⟩
        have hc' : z.cps.toList[i]? = some c := by simpa using hc
        refine ⟨rfl, _, rfl, rfl, _, rfl, ?_⟩
        rw [ne_hash, take_succ' hc', List.filter_append, List.map_append]
        refine it2 (fun n => ?_) (fun n => ?_)
        · refine ⟨_, rfl, _, h1, Nat.lt_of_le_of_lt (by rw [List.length_map]; exact le i) (by decide), ?_, Ext.mut h2 hD⟩
          rw [upd_same, List.filter_cons_of_pos (by simpa using n)]; rfl
        · rw [List.filter_cons_of_neg (by simpa using n)]
          exact ⟨by simpa using h1, h2⟩
      · rintro H1 ⟨h1, h2⟩
        rw [List.take_of_length_le (by simp)] at h1
        refine ⟨_, rfl, D, _, rfl, .inl (SqL.of h1), _, rfl, z, rfl, sz1000 hz, _, _, rfl, rfl, rfl, _, rfl, ?_⟩
        have e1 : decide (V.int (((z.cps.toList.filter (· != 35)).map sg).length : Int) = V.int ((z.length : Int) - 1)) = decide ((z.cps.toList.filter (· != 35)).length + 1 = z.length) := by
          rw [List.length_map]
          congr 1
          simp only [V.int.injEq, eq_iff_iff]
          omega
        rw [e1]
        refine it2 (fun n => ?_) (fun n => ?_)
        · refine ⟨_, rfl, D, rfl, ⟨_, SqL.of h1⟩, fun D2 hD2 => ?_⟩
          have D12 : D ≠ D2 := ne_of_none h1 hD2
          have f2 : H D2 = none := Ext.free h2 hD2
          refine lc_it (walk_list (K := K) (a := D) (xs := (z.cps.toList.filter (· != 35)).map sg)) (fun i H' => H' D2 = some (.lst ((((z.cps.toList.filter (· != 35)).take i).map okC).map V.bl)) ∧ H' D = some (.lst ((z.cps.toList.filter (· != 35)).map sg)) ∧ Ext [] H H') ⟨upd_same, by rw [upd_ne D12]; exact h1, Ext.mut h2 f2⟩ (fun _ _ _ h => SqL.of h.2.1) ?_ ?_
          · rintro i x H3 H4 hi ⟨g1, g2, g3⟩ ⟨rfl, hx⟩
            rw [List.getElem?_map] at hx
            cases hc : (z.cps.toList.filter (· != 35))[i]? with
            | none => rw [hc] at hx; cases hx
            | some c =>
              rw [hc] at hx
              cases hx
              refine ⟨rfl, _, rfl, c, rfl, _, g1, ?_, ?_, by rw [upd_ne D12]; exact g2, Ext.mut g3 f2⟩
              · rw [List.length_map, List.length_map, List.length_take]
                exact Nat.lt_of_le_of_lt (Nat.min_le_left _ _) (Nat.lt_of_lt_of_le hi (by rw [List.length_map]; exact Nat.le_trans (by have := le z.length; rw [List.take_of_length_le (by rw [cps_len]; exact Nat.le_refl _)] at this; exact this) (by decide)))
              · rw [upd_same, take_succ' hc, List.map_append, List.map_append]; rfl
          · rintro H3 ⟨g1, g2, g3⟩
            refine ⟨D2, _, rfl, SqL.of g1, ?_⟩
            have e : (((z.cps.toList.filter (· != 35)).take ((z.cps.toList.filter (· != 35)).map sg).length).map okC).all id = patB z := by
              unfold patB
              rw [decide_eq_true (by omega), n, List.length_map, List.take_length, List.all_map]
              rfl
            rw [e]
            exact q H3 g3
        · have e : patB z = false := by unfold patB; rw [n]; simp
          rw [← e]
          exact q H1 h2
end
end K15
set_option maxHeartbeats 4000000
namespace K15
open PySem PySem.Spec PyProof.Rows L2 Eb
/-! ## patterns as objects -/
def patF (A B : List Nat) : List (Str × V) := [("own_text", .str (tx (A ++ 35 :: B))), ("own_ahead", .str (tx A)), ("own_behind", .str (tx B))]
theorem patF_put (A B : List Nat) : putF "own_behind" (.str (tx B)) (putF "own_ahead" (.str (tx A)) (putF "own_text" (.str (tx (A ++ 35 :: B))) [])) = patF A B := by kernel_rfl
theorem patF_a (A B : List Nat) : (patF A B).lookup ("own_ahead" : Str) = some (.str (tx A)) := by kernel_rfl
theorem patF_b (A B : List Nat) : (patF A B).lookup ("own_behind" : Str) = some (.str (tx B)) := by kernel_rfl
theorem patF_t (A B : List Nat) : (patF A B).lookup ("own_text" : Str) = some (.str (tx (A ++ 35 :: B))) := by kernel_rfl
theorem patF_f (A B : List Nat) : (patF A B).lookup ("filled" : Str) = none := by kernel_rfl
abbrev cPat (K : PySem.W.Frag) : Addr := He.ga K "Pattern"
/-- at a stands the pattern A # B -/
def PatAt (K : PySem.W.Frag) (H : Hp) (a : Addr) (A B : List Nat) : Prop := ∃ dx, H a = some (.ins (cPat K) dx (patF A B))
/-- signs of words -/
def okL (l : List Nat) : Prop := l.all okC = true
structure PatOk (A B : List Nat) : Prop where
  a : okL A
  b : okL B
  sz : A.length + B.length ≤ 19
theorem okC_35 : okC 35 = false := by decide
theorem okL_35 {l : List Nat} (h : okL l) : l.all (· != 35) = true := by
  refine List.all_eq_true.mpr fun c hc => ?_
  have h2 := List.all_eq_true.mp h c hc
  by_cases e : c = 35
  · rw [e, okC_35] at h2; cases h2
  · simpa using e
theorem filt_ok {l : List Nat} (h : okL l) : l.filter (· != 35) = l := List.filter_eq_self.mpr (List.all_eq_true.mp (okL_35 h))
theorem patB_of {A B : List Nat} (h : PatOk A B) : patB (tx (A ++ 35 :: B)) = true := by
  unfold patB
  have e : (A ++ 35 :: B).filter (· != 35) = A ++ B := by
    rw [List.filter_append, filt_ok h.a]
    have : (35 :: B).filter (· != 35) = B.filter (· != 35) := List.filter_cons_of_neg (p := (· != 35)) (by decide)
    rw [this, filt_ok h.b]
  rw [tx_list, tx_len, e, List.length_append, List.length_append, List.length_cons]
  have := h.sz
  have ab : (A ++ B).all okC = true := by rw [List.all_append, h.a, h.b]; rfl
  rw [decide_eq_true (by omega), decide_eq_true (by omega), ab]
  rfl
theorem patB_ex {z : Str} (h : patB z = true) : ∃ A B, z = tx (A ++ 35 :: B) ∧ PatOk A B := by
  unfold patB at h
  simp only [Bool.and_eq_true, decide_eq_true_eq] at h
  obtain ⟨h1, h2, h3⟩ := h
  obtain ⟨l, rfl⟩ := tx_ex z
  rw [tx_list] at h2 h3
  rw [tx_len] at h1 h2
  obtain ⟨A, B, e, a1, a2, a3⟩ := one_hash h2
  rw [a3, List.all_append, Bool.and_eq_true] at h3
  rw [e, List.length_append, List.length_cons] at h1
  exact ⟨A, B, by rw [e], h3.1, h3.2, by omega⟩
def spPatInit (K : PySem.W.Frag) : Sp := fun vs H Q _ => ∃ (a dx : Addr) (A B : List Nat), vs = [.ref a, .str (tx (A ++ 35 :: B))] ∧ H a = some (.ins (cPat K) dx []) ∧ PatOk A B ∧ ∀ H', Ext [a] H H' → PatAt K H' a A B → Q .non H'
section
variable {P : Program} {w : World} {K : PySem.W.Frag} {mg : Str → Option Value} {base : Heap}
theorem ok_Pattern_init (T : Tx.TX K mg) : C8.Mak P w K mg base 3 "Pattern" (He.ga K "Pattern") (spPatInit K) [] := by
  refine makD (k := 2) T.d_Pattern_init T.mk_Pattern T.g_Pattern Tx.sc_Pattern_init (fun _ _ _ _ _ _ us hl => match us, hl with | [_, _], _ => rfl) ?len ?run
  case len => rintro vs H Q E ⟨a, dx, A, B, rfl, _⟩; rfl
  case run =>
    rintro cdv A' outer s H vs Q E hr ⟨a, dx, A, B, rfl, ha, ok, q⟩
    refine ⟨_, by exact (pss_cons (ps_if (pt_not (pt_val (C8.pe_c (ok_is_pattern_text T) hr (by decide) rfl (pa_cons (pv 1) pa_nil)))) (pss_one ps_never) pss_nil) (pss_cons (ps_fld (pv 0) (pv 1) rfl) (pss_cons (ps_set (i := 2) Tx.sc_Pattern_init.nd rfl (Or.inl rfl) (pe_ix ix_list (pe_lc (own := [("at", 3), ("sign", 4)]) (g := gTup K 2 (gCons (gName 3) (gCons (gName 4) gNil))) rfl Tx.sc_Pattern_init.nd (pi_enumS (by rfl) T.b_enumerate (pa_cons (pv 1) pa_nil)) (blkOk_by (own := [("at", 3), ("sign", 4)]) (N := Tx.N_Pattern_init) (sc := defScope Tx.s_Pattern_init) (by decide +kernel)) (fun _ _ _ _ _ => by exact (pg_tup rfl (pgs_cons (pg_name (i := 3) Tx.sc_Pattern_init.nd rfl (Or.inl rfl)) (pgs_cons (pg_name (i := 4) Tx.sc_Pattern_init.nd rfl (Or.inl rfl)) pgs_nil)))) (fun _ _ _ _ _ => (pts_one (pt_cmpR op_eq (pv 4) (pe_gs T.k_HASH) (nomark _)))) (fun _ _ _ _ _ => (pv 3))) pe_int (fun _ _ => rfl))) (pss_one (ps_asg (pe_tup (pa_cons (pe_slice sl_str (pv 1) po_none (po_some (pv 2))) (pa_cons (pe_slice sl_str (pv 1) (po_some (pe_op op_add (pv 2) pe_int)) po_none) pa_nil))) (pg_tup rfl (pgs_cons (pg_fld (pv 0)) (pgs_cons (pg_fld (pv 0)) pgs_nil)))))))), ?_⟩
    have len : (A ++ 35 :: B).length ≤ 20 := by rw [List.length_append, List.length_cons]; have := ok.sz; omega
    refine ⟨_, rfl, _, rfl, by rw [tx_len]; omega, fun H1 e1 => ⟨_, rfl, ?_⟩⟩
    rw [patB_of ok]
    refine itF rfl ?_
    have ha1 : H1 a = some (.ins (cPat K) dx []) := e1 a _ (by simp) ha
    refine ⟨_, rfl, _, rfl, a, _, dx, _, rfl, ha1, T.c_Pattern, T.na_Pattern_own_text, by decide, ?_⟩
    have h2a : upd H1 a (.ins (cPat K) dx (putF "own_text" (.str (tx (A ++ 35 :: B))) [])) a = some (.ins (cPat K) dx (putF "own_text" (.str (tx (A ++ 35 :: B))) [])) := upd_same
    have e2 : Ext [a] H (upd H1 a (.ins (cPat K) dx (putF "own_text" (.str (tx (A ++ 35 :: B))) []))) := (e1.sub (by simp)).trans (Ext.put mem1)
    generalize upd H1 a (.ins (cPat K) dx (putF "own_text" (.str (tx (A ++ 35 :: B))) [])) = H2' at h2a e2 ⊢
    refine ⟨_, rfl, _, rfl, fun D hD => lc_it walk_enumS (fun i H' => H' D = some (.lst (if i ≤ A.length then [] else [.int (A.length : Int)])) ∧ Ext [] H2' H') ⟨upd_same, Ext.new hD⟩ (fun _ _ _ _ => trivial) ?_ ?_⟩
    · rintro i x H3 H4 hi ⟨g1, g2⟩ ⟨Tp, u, v, rfl, hT, rfl, hx, hy⟩
      cases (show V.int (i : Nat) = u from Option.some.inj hx)
      dsimp only at hy
      rw [tx_get] at hy
      cases hc : (A ++ 35 :: B)[i]? with
      | none => rw [hc] at hy; cases hy
      | some c =>
        rw [hc] at hy
        cases (show V.str ⟨#[c]⟩ = v from Option.some.inj hy)
        have nD : D ≠ Tp := ne_of_none g1 hT
        have fD : H2' Tp = none := Ext.free g2 hT
        have g1' : (upd H3 Tp (.tup [.int (i : Nat), .str ⟨#[c]⟩])) D = some (.lst (if i ≤ A.length then [] else [.int (A.length : Int)])) := by rw [upd_ne nD]; exact g1
        have g2' : Ext [] H2' (upd H3 Tp (.tup [.int (i : Nat), .str ⟨#[c]⟩])) := Ext.mut g2 fD
        refine ⟨Tp, _, rfl, SqT.of upd_same, rfl, _, _, rfl, _, _, rfl, rfl, rfl, _, rfl, rfl, _, rfl, ?_⟩
        have cm : decide (V.str ⟨#[c]⟩ = V.str (PySem.Str.ofString "#")) = (c == 35) := by
          have := ne_hash c
          cases h : decide (V.str ⟨#[c]⟩ = V.str (PySem.Str.ofString "#")) <;> rw [h] at this <;> simp_all [bne]
        rw [cm]
        have here : c = 35 ↔ i = A.length := by
          rcases Nat.lt_trichotomy i A.length with h | h | h
          · rw [List.getElem?_append_left h] at hc
            have := List.all_eq_true.mp (okL_35 ok.a) c (List.mem_of_getElem? hc)
            constructor
            · rintro rfl; simp at this
            · omega
          · subst h
            rw [List.getElem?_append_right (Nat.le_refl _), Nat.sub_self] at hc
            exact ⟨fun _ => rfl, fun _ => by simpa using hc.symm⟩
          · rw [List.getElem?_append_right (by omega), show i - A.length = (i - A.length - 1) + 1 by omega, List.getElem?_cons_succ] at hc
            have := List.all_eq_true.mp (okL_35 ok.b) c (List.mem_of_getElem? hc)
            constructor
            · rintro rfl; simp at this
            · omega
        refine it2 (fun n => ?_) (fun n => ?_)
        · have ei := here.mp (by simpa using n)
          subst ei
          refine ⟨_, rfl, _, g1', by rw [if_pos (Nat.le_refl _)]; decide, ?_, Ext.mut g2' hD⟩
          rw [upd_same, if_pos (Nat.le_refl _), if_neg (by omega)]; rfl
        · have ei : ¬ i = A.length := fun z => by have := here.mpr z; simp [this] at n
          refine ⟨?_, g2'⟩
          rw [g1']
          by_cases h : i ≤ A.length
          · rw [if_pos h, if_pos (by omega)]
          · rw [if_neg h, if_neg (by omega)]
    · rintro H3 ⟨g1, g2⟩
      rw [tx_size, List.length_append, List.length_cons, if_neg (by omega)] at g1
      refine ⟨D, _, 0, _, rfl, rfl, SqL.of g1, rfl, ?_⟩
      have h3a := g2 a _ (by simp) h2a
      refine ⟨_, rfl, _, rfl, _, rfl, _, rfl, by rw [tx_len]; exact sz1000 (by omega), _, rfl, _, rfl, _, _, rfl, rfl, _, rfl, _, rfl, by rw [tx_len]; exact sz1000 (by omega), (by show 2 ≤ sizeLine; decide), fun t ht => ?_⟩
      have nt : a ≠ t := ne_of_none h3a ht
      have c1 : cutS (tx (A ++ 35 :: B)) none (some (A.length : Int)) = tx A := by rw [cut_to, List.take_left]
      have c2 : cutS (tx (A ++ 35 :: B)) (some ((A.length : Int) + 1)) none = tx B := by
        have : ((A.length : Int) + 1) = ((A.length + 1 : Nat) : Int) := by omega
        rw [this, cut_from, tx_eq, ← List.drop_drop, List.drop_left]; rfl
      rw [c1, c2]
      refine ⟨t, _, rfl, SqT.of upd_same, rfl, _, _, rfl, _, rfl, a, _, dx, _, rfl, (by rw [upd_ne nt]; exact h3a), T.c_Pattern, T.na_Pattern_own_ahead, putF_lt 0 (Nat.le_refl _) (by decide), _, _, rfl, _, rfl, a, _, dx, _, rfl, upd_same, T.c_Pattern, T.na_Pattern_own_behind, putF_lt 1 (putF_n (fs := []) (n := 0) (Nat.le_refl _)) (by decide), rfl, ?_⟩
      · refine q _ ?_ ⟨dx, by rw [upd_same, patF_put]⟩
        exact ((e2.trans (g2.sub (by simp))).trans (Ext.new ht)).trans ((Ext.put mem1).trans (Ext.put mem1))
end
end K15
set_option maxHeartbeats 4000000
namespace K15
open PySem PySem.Spec PyProof.Rows L2 Eb
def spIsInt : Sp := fun vs H Q _ => ∃ i : Int, vs = [.int i] ∧ Q (.bl true) H
def spIsCount : Sp := fun vs H Q _ => ∃ i : Int, vs = [.int i] ∧ Q (.bl (decide (0 ≤ i))) H
/-- a list, a tuple, or no such thing -/
def spIsList (K : PySem.W.Frag) : Sp := fun vs H Q _ => ∃ v, vs = [v] ∧ ((TyX K H v (.type "list") ∨ TyX K H v (.type "tuple")) ∧ ∀ H', Ext [] H H' → Q (.bl true) H')
def spFilled (K : PySem.W.Frag) : Sp := fun vs H Q _ => ∃ (a : Addr) (n : Nat) (A B : List Nat), vs = [.ref a, .int n] ∧ PatAt K H a A B ∧ PatOk A B ∧ n < 2 ^ 1900 ∧ ∀ H', Ext [] H H' → Q (.str (tx (A ++ dig n ++ B))) H'
section
variable {P : Program} {w : World} {K : PySem.W.Frag} {mg : Str → Option Value} {base : Heap}
theorem ok_is_integer (T : Tx.TX K mg) : C8.Cal P w K mg base 1 "is_integer" (spIsInt) [] := by
  refine calD (k := 0) T.d_is_integer T.g_is_integer Tx.sc_is_integer (fun _ _ _ _ _ _ us hl => match us, hl with | [_], _ => rfl) ?len ?run
  case len => rintro vs H Q E ⟨c, rfl, _⟩; rfl
  case run =>
    rintro cdv A' outer s H vs Q E hr ⟨i, rfl, q⟩
    refine ⟨_, by exact (pss_one (ps_ret (pe_and (pe_callB call_isi (by rfl) T.b_isinstance (by decide +kernel) (pa_cons (pv 0) (pa_cons (pe_ty (T := "int") T.b_int (by decide +kernel)) pa_nil))) (pe_one (pe_not (pe_callB call_isi (by rfl) T.b_isinstance (by decide +kernel) (pa_cons (pv 0) (pa_cons (pe_ty (T := "bool") T.b_bool (by decide +kernel)) pa_nil)))))))), ?_⟩
    exact ⟨_, rfl, _, _, _, _, true, rfl, .ty _, .base (.int i), T.is_int_int, _, rfl, itT rfl ⟨_, rfl, _, _, _, _, false, rfl, .ty _, .base (.int i), T.is_int_bool, _, rfl, q⟩⟩
theorem ok_is_count (T : Tx.TX K mg) : C8.Cal P w K mg base 2 "is_count" (spIsCount) [] := by
  refine calD (k := 1) T.d_is_count T.g_is_count Tx.sc_is_count (fun _ _ _ _ _ _ us hl => match us, hl with | [_], _ => rfl) ?len ?run
  case len => rintro vs H Q E ⟨c, rfl, _⟩; rfl
  case run =>
    rintro cdv A' outer s H vs Q E hr ⟨i, rfl, q⟩
    refine ⟨_, by exact (pss_one (ps_ret (pe_and (C8.pe_c (ok_is_integer T) hr (by decide) rfl (pa_cons (pv 0) pa_nil)) (pe_one (pe_cmpR op_ge (pv 0) pe_int (nomark _)))))), ?_⟩
    exact ⟨_, rfl, i, rfl, _, rfl, itT rfl ⟨_, rfl, _, _, rfl, rfl, q⟩⟩
theorem ok_is_list (T : Tx.TX K mg) : C8.Cal P w K mg base 1 "is_list" (spIsList K) [] := by
  refine calD (k := 0) T.d_is_list T.g_is_list Tx.sc_is_list (fun _ _ _ _ _ _ us hl => match us, hl with | [_], _ => rfl) ?len ?run
  case len => rintro vs H Q E ⟨c, rfl, _⟩; rfl
  case run =>
    rintro cdv A' outer s H vs Q E hr ⟨v, rfl, h, q⟩
    refine ⟨_, by exact (pss_one (ps_ret (pe_callB call_isiT (by rfl) T.b_isinstance (by decide +kernel) (pa_cons (pv 0) (pa_cons (pe_tup (pa_cons (pe_ty (T := "list") T.b_list (by decide +kernel)) (pa_cons (pe_ty (T := "tuple") T.b_tuple (by decide +kernel)) pa_nil))) pa_nil))))), ?_⟩
    have e1 : PySem.W.kitAny K (.type "list") [.type "list", .type "tuple"] = some true := by unfold PySem.W.kitAny; rw [T.is_list_list]
    have e2 : PySem.W.kitAny K (.type "tuple") [.type "list", .type "tuple"] = some true := by unfold PySem.W.kitAny; rw [T.is_tuple_list]; unfold PySem.W.kitAny; dsimp only; rw [T.is_tuple_tuple]
    have ty : ∀ {p : Addr} {o : HO} {t : Value}, H p = none → TyX K H v t → TyX K (upd H p o) v t := fun {p o t} n h => by
      have up : ∀ {a : Addr} {u : HO}, H a = some u → upd H p o a = some u := fun {a u} e => by rw [upd_ne (ne_of_none e n)]; exact e
      cases h with
      | base b =>
        cases b with
        | non => exact .base .non
        | bl x => exact .base (.bl x)
        | int x => exact .base (.int x)
        | str x => exact .base (.str x)
        | flt x => exact .base (.flt x)
        | lst e => exact .base (.lst (up e))
        | frz e => exact .base (.frz (up e))
        | tup e => exact .base (.tup (up e))
        | dK e => exact .base (.dK (up e))
        | dT e => exact .base (.dT (up e))
        | ins e a b c d f => exact .base (.ins (up e) a b c d f)
      | byt b => exact .byt b
      | set e => exact .set (up e)
      | kList e c => exact .kList e c
      | kTuple e c => exact .kTuple e c
      | kDict e c => exact .kDict e c
      | fTuple e => exact .fTuple (up e)
      | fDict e => exact .fDict (up e)
    refine ⟨_, rfl, (by show 2 ≤ sizeLine; decide), fun p np => ?_⟩
    rcases h with h | h
    · exact ⟨v, p, _, _, _, true, rfl, upd_same, .cons (.ty _) (.cons (.ty _) .nil), ty np h, e1, q _ (Ext.new np)⟩
    · exact ⟨v, p, _, _, _, true, rfl, upd_same, .cons (.ty _) (.cons (.ty _) .nil), ty np h, e2, q _ (Ext.new np)⟩
theorem ok_Pattern_filled (T : Tx.TX K mg) : C8.Met P w K mg base 3 (He.ga K "Pattern") "filled" (spFilled K) [] := by
  refine metD (k := 2) T.d_Pattern_filled T.c_Pattern T.m_Pattern_filled Tx.sc_Pattern_filled (fun _ _ _ _ _ _ us hl => match us, hl with | [_, _], _ => rfl) ?len ?run
  case len => rintro vs H Q E ⟨a, n, A, B, rfl, _⟩; rfl
  case run =>
    rintro cdv A' outer s H vs Q E hr ⟨a, n, A, B, rfl, ⟨dx, ha⟩, ok, hn, q⟩
    refine ⟨_, by exact (pss_cons (ps_if (pt_not (pt_val (C8.pe_c (ok_is_count T) hr (by decide) rfl (pa_cons (pv 1) pa_nil)))) (pss_one ps_never) pss_nil) (pss_one (ps_ret (pe_join pe_str (pe_lst (pa_cons (pe_fld (pv 0) rfl) (pa_cons (pe_callTy call_str_int (by rfl) T.b_str (by decide +kernel) (pa_cons (pv 1) pa_nil)) (pa_cons (pe_fld (pv 0) rfl) pa_nil)))))))), ?_⟩
    refine ⟨_, rfl, n, rfl, _, rfl, itF (by rw [decide_eq_true (by omega)]; rfl) ?_⟩
    have l1 : (n : Int).natAbs.log2 < 1920 := by
      rw [Int.natAbs_natCast]
      by_cases h0 : n = 0
      · subst h0; decide
      · exact Nat.lt_trans ((Nat.log2_lt h0).mpr hn) (by decide)
    have dl : (dig n).length ≤ 1900 := dig_le (by decide) hn
    have sa := ok.sz
    refine ⟨⟨_, rfl⟩, _, rfl, a, _, dx, _, _, rfl, ha, T.c_Pattern, T.na_Pattern_own_ahead, patF_a A B, _, rfl, n, rfl, l1, _, rfl, a, _, dx, _, _, rfl, ha, T.c_Pattern, T.na_Pattern_own_behind, patF_b A B, (by show 3 ≤ sizeLine; decide), fun p np => ?_⟩
    rw [dig_eq]
    refine ⟨_, p, [tx A, tx (dig n), tx B], rfl, rfl, .inl (SqL.of upd_same), ?_, ?_⟩
    · simp only [List.map_cons, List.map_nil, List.sum_cons, List.sum_nil, tx_len, List.length_cons, List.length_nil]
      have : (PySem.Str.ofString "").length = 0 := by decide +kernel
      rw [this]
      omega
    · rw [join3]
      exact q _ (Ext.new np)
end
end K15
set_option maxHeartbeats 4000000
namespace K15
open PySem PySem.Spec PyProof.Rows L2 Eb
/-! ## rows -/
inductive Far where
  | word (l : List Nat)
  | pat (A B : List Nat)
abbrev cRow (K : PySem.W.Frag) : Addr := He.ga K "Row"
def FarAt (K : PySem.W.Frag) (H : Hp) : Far → V → Prop
  | .word l, v => v = .str (tx l)
  | .pat A B, v => ∃ a, v = .ref a ∧ PatAt K H a A B
structure WOk (l : List Nat) : Prop where
  sz : l.length ≤ 20
  ok : okL l
def FarOk : Far → Prop
  | .word l => WOk l
  | .pat A B => PatOk A B
def tls (told : List (List Nat)) : List V := told.map fun l => V.str (tx l)
structure RowOk (told : List (List Nat)) (far : Far) : Prop where
  n : told.length ≤ 8
  w : ∀ l ∈ told, WOk l
  f : FarOk far
def rowF (t : Addr) (v : V) : List (Str × V) := [("own_told", .ref t), ("own_far", v)]
theorem rowF_put (t : Addr) (v : V) : putF "own_far" v (putF "own_told" (.ref t) []) = rowF t v := by kernel_rfl
theorem rowF_set (t : Addr) (v u : V) : putF "own_far" u (rowF t v) = rowF t u := by kernel_rfl
theorem rowF_t (t : Addr) (v : V) : (rowF t v).lookup ("own_told" : Str) = some (.ref t) := by kernel_rfl
theorem rowF_f (t : Addr) (v : V) : (rowF t v).lookup ("own_far" : Str) = some v := by kernel_rfl
theorem rowF_n1 (t : Addr) (v : V) : (rowF t v).lookup ("word_at" : Str) = none := by kernel_rfl
theorem rowF_n2 (t : Addr) (v : V) : (rowF t v).lookup ("has_pattern" : Str) = none := by kernel_rfl
theorem rowF_n3 (t : Addr) (v : V) : (rowF t v).lookup ("width" : Str) = none := by kernel_rfl
theorem rowF_n4 (t : Addr) (v : V) : (rowF t v).lookup ("widths" : Str) = none := by kernel_rfl
theorem rowF_n5 (t : Addr) (v : V) : (rowF t v).lookup ("forward_fault" : Str) = none := by kernel_rfl
theorem rowF_n6 (t : Addr) (v : V) : (rowF t v).lookup ("backward_fault" : Str) = none := by kernel_rfl
theorem rowF_n7 (t : Addr) (v : V) : (rowF t v).lookup ("copy" : Str) = none := by kernel_rfl
theorem rowF_n8 (t : Addr) (v : V) : (rowF t v).lookup ("set_far" : Str) = none := by kernel_rfl
/-- at a stands a row whose told words stand at t -/
structure RowAt (K : PySem.W.Frag) (H : Hp) (a t : Addr) (told : List (List Nat)) (far : Far) : Prop where
  ob : ∃ dx v, H a = some (.ins (cRow K) dx (rowF t v)) ∧ FarAt K H far v
  ls : H t = some (.lst (tls told))
theorem FarAt.ext {K : PySem.W.Frag} {R : List Addr} {H H' : Hp} (e : Ext R H H') (n : ∀ b ∈ R, ∀ C dx A B, H b ≠ some (.ins C dx (patF A B))) : ∀ {far : Far} {v : V}, FarAt K H far v → FarAt K H' far v
  | .word l, v, h => h
  | .pat A B, v, ⟨a, e1, dx, e2⟩ => ⟨a, e1, dx, e a _ (fun z => n a z _ _ _ _ e2) e2⟩
theorem FarAt.ext0 {K : PySem.W.Frag} {H H' : Hp} (e : Ext [] H H') {far : Far} {v : V} (h : FarAt K H far v) : FarAt K H' far v := h.ext e (fun b z => by simp at z)
theorem RowAt.ext {K : PySem.W.Frag} {R : List Addr} {H H' : Hp} {a t : Addr} {told : List (List Nat)} {far : Far} (h : RowAt K H a t told far) (e : Ext R H H') (na : a ∉ R) (nt : t ∉ R) (n : ∀ b ∈ R, ∀ C dx A B, H b ≠ some (.ins C dx (patF A B))) : RowAt K H' a t told far := by
  obtain ⟨⟨dx, v, h1, h2⟩, h3⟩ := h
  exact ⟨⟨dx, v, e a _ na h1, h2.ext e n⟩, e t _ nt h3⟩
theorem RowAt.ext0 {K : PySem.W.Frag} {H H' : Hp} {a t : Addr} {told : List (List Nat)} {far : Far} (h : RowAt K H a t told far) (e : Ext [] H H') : RowAt K H' a t told far := h.ext e (by simp) (by simp) (fun b z => by simp at z)
theorem RngAt.nopat {H : Hp} {r : Addr} (h : RngAt H r) : ∀ b ∈ [r], ∀ C dx A B, H b ≠ some (.ins C dx (patF A B)) := fun b hb C dx A B z => by
  cases List.mem_singleton.mp hb
  obtain ⟨x, y, h1, _⟩ := h
  rw [h1] at z
  cases z
theorem tls_ne (told : List (List Nat)) (x y : Int) : tls told ≠ [.int x, .int y] := fun z => by
  cases told with
  | nil => cases z
  | cons l r => cases (List.cons.inj z).1
theorem RowAt.extR {K : PySem.W.Frag} {H H' : Hp} {a t r : Addr} {told : List (List Nat)} {far : Far} (h : RowAt K H a t told far) (hR : RngAt H r) (e : Ext [r] H H') : RowAt K H' a t told far := by
  obtain ⟨x, y, h1, _⟩ := id hR
  obtain ⟨⟨dx, v, g1, g2⟩, g3⟩ := id h
  refine h.ext e ?_ ?_ hR.nopat
  · intro z; cases List.mem_singleton.mp z; rw [h1] at g1; cases g1
  · intro z; cases List.mem_singleton.mp z; rw [h1] at g3; exact tls_ne told x y (HO.lst.inj (Option.some.inj g3)).symm
def farWord : Far → Nat → List Nat
  | .word l, _ => l
  | .pat A B, d => A ++ dig d ++ B
def wordAt (told : List (List Nat)) (far : Far) (d : Nat) : List Nat := match told[d]? with
  | some l => l
  | none => farWord far d
def isPat : Far → Bool
  | .word _ => false
  | .pat _ _ => true
def spIsFar (K : PySem.W.Frag) : Sp := fun vs H Q _ => ∃ (far : Far) (v : V), vs = [v] ∧ FarAt K H far v ∧ FarOk far ∧ ∀ H', Ext [] H H' → Q (.bl true) H'
def spRowInit (K : PySem.W.Frag) : Sp := fun vs H Q _ => ∃ (a dx l : Addr) (v : V) (told : List (List Nat)) (far : Far), vs = [.ref a, .ref l, v] ∧ H a = some (.ins (cRow K) dx []) ∧ ((SqL K H l (tls told) ∧ TyX K H (.ref l) (.type "list")) ∨ (SqT K H l (tls told) ∧ TyX K H (.ref l) (.type "tuple"))) ∧ FarAt K H far v ∧ RowOk told far ∧
  ∀ (t : Addr) (H' : Hp), H t = none → Ext [a] H H' → RowAt K H' a t told far → Q .non H'
def spHasPat (K : PySem.W.Frag) : Sp := fun vs H Q _ => ∃ (a t : Addr) (told : List (List Nat)) (far : Far), vs = [.ref a] ∧ RowAt K H a t told far ∧ Q (.bl (isPat far)) H
def spWordAt (K : PySem.W.Frag) : Sp := fun vs H Q _ => ∃ (a t : Addr) (told : List (List Nat)) (far : Far) (d : Nat), vs = [.ref a, .int d] ∧ RowAt K H a t told far ∧ RowOk told far ∧ d < 2 ^ 1900 ∧ ∀ H', Ext [] H H' → Q (.str (tx (wordAt told far d))) H'
def spWant : Sp := fun vs H Q _ => ∃ d : Nat, vs = [.int d] ∧ Q .non H
def spWidth (K : PySem.W.Frag) : Sp := fun vs H Q _ => ∃ (a t : Addr) (told : List (List Nat)) (far : Far) (d : Nat), vs = [.ref a, .int d] ∧ RowAt K H a t told far ∧ RowOk told far ∧ d < 2 ^ 1900 ∧ ∀ H', Ext [] H H' → Q (.int (wordAt told far d).length) H'
def wds (told : List (List Nat)) (far : Far) (n : Nat) : List V := (List.range n).map fun d => V.int (wordAt told far d).length
def spWidths (K : PySem.W.Frag) : Sp := fun vs H Q _ => ∃ (a t : Addr) (told : List (List Nat)) (far : Far), vs = [.ref a] ∧ RowAt K H a t told far ∧ RowOk told far ∧ ∀ p H', Ext [] H H' → H p = none → H' p = some (.lst (wds told far (told.length + 1))) → Q (.ref p) H'
theorem FarOk.len {far : Far} (h : FarOk far) {d : Nat} (hd : d < 2 ^ 1900) : (farWord far d).length ≤ 2000 := by
  cases far with
  | word l => exact Nat.le_trans h.sz (by decide)
  | pat A B =>
    have := h.sz
    have := dig_le (n := d) (by decide) hd
    show (A ++ dig d ++ B).length ≤ 2000
    rw [List.length_append, List.length_append]
    omega
theorem wordAt_len {told : List (List Nat)} {far : Far} (h : RowOk told far) {d : Nat} (hd : d < 2 ^ 1900) : (wordAt told far d).length ≤ 2000 := by
  unfold wordAt
  cases e : told[d]? with
  | some l => exact Nat.le_trans (h.w l (List.mem_of_getElem? e)).sz (by decide)
  | none => exact h.f.len hd
theorem wdB_of {l : List Nat} (h : WOk l) : wdB (tx l) = true := by
  unfold wdB
  rw [tx_len, tx_list, decide_eq_true h.sz, h.ok]; rfl
section
variable {P : Program} {w : World} {K : PySem.W.Frag} {mg : Str → Option Value} {base : Heap}
theorem ok_is_far (T : Tx.TX K mg) : C8.Cal P w K mg base 3 "is_far" (spIsFar K) [] := by
  refine calD (k := 2) T.d_is_far T.g_is_far Tx.sc_is_far (fun _ _ _ _ _ _ us hl => match us, hl with | [_], _ => rfl) ?len ?run
  case len => rintro vs H Q E ⟨far, v, rfl, _⟩; rfl
  case run =>
    rintro cdv A' outer s H vs Q E hr ⟨far, v, rfl, hf, ok, q⟩
    refine ⟨_, by exact (pss_one (ps_ret (pe_or (C8.pe_c (ok_is_word T) hr (by decide) rfl (pa_cons (pv 0) pa_nil)) (pe_one (pe_callB call_isi (by rfl) T.b_isinstance (by decide +kernel) (pa_cons (pv 0) (pa_cons (pe_gr T.g_Pattern) pa_nil))))))), ?_⟩
    cases far with
    | word l =>
      cases hf
      refine ⟨_, rfl, _, rfl, .inl ⟨_, rfl, by rw [tx_len]; exact Nat.le_trans ok.sz (by decide), fun H' e => ⟨_, rfl, itT (wdB_of ok) ?_⟩⟩⟩
      exact q H' e
    | pat A B =>
      obtain ⟨a, rfl, dx, ha⟩ := hf
      have ty := insB_ok (H := H) T.c_Pattern T.ty_Pattern ha
      refine ⟨_, rfl, _, rfl, .inr ⟨⟨_, ty, T.is_Pattern_str⟩, _, rfl, itF rfl ⟨_, rfl, _, _, _, _, true, rfl, .own _, ty, T.is_Pattern_Pattern, ?_⟩⟩⟩
      exact q H (Ext.refl H)
theorem ok_want_distance (T : Tx.TX K mg) : C8.Cal P w K mg base 3 "want_distance" (spWant) [] := by
  refine calD (k := 2) T.d_want_distance T.g_want_distance Tx.sc_want_distance (fun _ _ _ _ _ _ us hl => match us, hl with | [_], _ => rfl) ?len ?run
  case len => rintro vs H Q E ⟨d, rfl, _⟩; rfl
  case run =>
    rintro cdv A' outer s H vs Q E hr ⟨d, rfl, q⟩
    refine ⟨_, by exact (pss_one (ps_if (pt_not (pt_val (C8.pe_c (ok_is_count T) hr (by decide) rfl (pa_cons (pv 0) pa_nil)))) (pss_one ps_never) pss_nil)), ?_⟩
    exact ⟨_, rfl, d, rfl, _, rfl, itF (by rw [decide_eq_true (by omega)]; rfl) q⟩
theorem ok_Row_has_pattern (T : Tx.TX K mg) : C8.Met P w K mg base 1 (He.ga K "Row") "has_pattern" (spHasPat K) [] := by
  refine metD (k := 0) T.d_Row_has_pattern T.c_Row T.m_Row_has_pattern Tx.sc_Row_has_pattern (fun _ _ _ _ _ _ us hl => match us, hl with | [_], _ => rfl) ?len ?run
  case len => rintro vs H Q E ⟨a, t, told, far, rfl, _⟩; rfl
  case run =>
    rintro cdv A' outer s H vs Q E hr ⟨a, t, told, far, rfl, ⟨⟨dx, v, ha, hf⟩, ht⟩, q⟩
    refine ⟨_, by exact (pss_one (ps_ret (pe_callB call_isi (by rfl) T.b_isinstance (by decide +kernel) (pa_cons (pe_fld (pv 0) rfl) (pa_cons (pe_gr T.g_Pattern) pa_nil))))), ?_⟩
    refine ⟨_, rfl, a, _, dx, _, _, rfl, ha, T.c_Row, T.na_Row_own_far, rowF_f t v, ?_⟩
    cases far with
    | word l =>
      cases hf
      exact ⟨_, _, _, _, false, rfl, .own _, .base (.str _), T.is_str_Pattern, q⟩
    | pat A B =>
      obtain ⟨b, rfl, dy, hb⟩ := hf
      exact ⟨_, _, _, _, true, rfl, .own _, insB_ok T.c_Pattern T.ty_Pattern hb, T.is_Pattern_Pattern, q⟩
theorem ok_Row_word_at (T : Tx.TX K mg) : C8.Met P w K mg base 4 (He.ga K "Row") "word_at" (spWordAt K) [] := by
  refine metD (k := 3) T.d_Row_word_at T.c_Row T.m_Row_word_at Tx.sc_Row_word_at (fun _ _ _ _ _ _ us hl => match us, hl with | [_, _], _ => rfl) ?len ?run
  case len => rintro vs H Q E ⟨a, t, told, far, d, rfl, _⟩; rfl
  case run =>
    rintro cdv A' outer s H vs Q E hr ⟨a, t, told, far, d, rfl, R, ok, hd, q⟩
    obtain ⟨⟨dx, v, ha, hf⟩, ht⟩ := id R
    refine ⟨_, by exact (pss_cons (ps_if (pt_cmpR op_lt (pv 1) (pe_callB call_len_seq (by rfl) T.b_len (by decide +kernel) (pa_cons (pe_fld (pv 0) rfl) pa_nil)) (nomark _)) (pss_one (ps_ret (pe_ix ix_list (pe_fld (pv 0) rfl) (pv 1) (fun _ _ => rfl)))) pss_nil) (pss_one (ps_ret (pe_ifExp (pt_val (C8.pe_mt0 (ok_Row_has_pattern T) hr (by decide) (pv 0))) (C8.pe_mt (ok_Pattern_filled T) hr (by decide) (pe_fld (pv 0) rfl) (pa_cons (pv 1) pa_nil)) (pe_fld (pv 0) rfl))))), ?_⟩
    have el : (tls told).length = told.length := List.length_map _
    refine ⟨_, rfl, _, rfl, a, _, dx, _, _, rfl, ha, T.c_Row, T.na_Row_own_told, rowF_t t v, t, _, rfl, .inl (SqL.of ht), _, _, rfl, rfl, _, rfl, it2 (fun c => ?_) (fun c => ?_)⟩
    · have c' := of_decide_eq_true c
      have hl : d < told.length := by omega
      have e : told[d]? = some told[d] := List.getElem?_eq_getElem hl
      refine ⟨_, rfl, a, _, dx, _, _, rfl, ha, T.c_Row, T.na_Row_own_told, rowF_t t v, _, rfl, t, _, _, _, rfl, rfl, SqL.of ht, atI_nat (v := V.str (tx told[d])) (by unfold tls; rw [List.getElem?_map, e]; rfl), ?_⟩
      have := q H (Ext.refl H)
      unfold wordAt at this
      rw [e] at this
      exact this
    · have c' := of_decide_eq_false c
      have e : told[d]? = none := List.getElem?_eq_none (by omega)
      have q' : ∀ H', Ext [] H H' → Q (.str (tx (farWord far d))) H' := fun H' x => by
        have := q H' x
        unfold wordAt at this
        rw [e] at this
        exact this
      refine ⟨_, rfl, a, dx, _, rfl, ha, rowF_n2 t v, a, t, told, far, rfl, R, _, rfl, ?_⟩
      cases far with
      | word l =>
        refine itF rfl ⟨_, rfl, a, _, dx, _, _, rfl, ha, T.c_Row, T.na_Row_own_far, rowF_f t v, ?_⟩
        cases hf
        exact q' H (Ext.refl H)
      | pat A B =>
        obtain ⟨b, rfl, dy, hb⟩ := hf
        exact itT rfl ⟨_, rfl, a, _, dx, _, _, rfl, ha, T.c_Row, T.na_Row_own_far, rowF_f t _, b, dy, _, rfl, hb, patF_f A B, _, rfl, b, d, A, B, rfl, ⟨dy, hb⟩, ok.f, hd, q'⟩
theorem ok_Row_width (T : Tx.TX K mg) : C8.Met P w K mg base 5 (He.ga K "Row") "width" (spWidth K) [] := by
  refine metD (k := 4) T.d_Row_width T.c_Row T.m_Row_width Tx.sc_Row_width (fun _ _ _ _ _ _ us hl => match us, hl with | [_, _], _ => rfl) ?len ?run
  case len => rintro vs H Q E ⟨a, t, told, far, d, rfl, _⟩; rfl
  case run =>
    rintro cdv A' outer s H vs Q E hr ⟨a, t, told, far, d, rfl, R, ok, hd, q⟩
    obtain ⟨⟨dx, v, ha, hf⟩, ht⟩ := id R
    refine ⟨_, by exact (pss_cons (ps_expr (C8.pe_c (ok_want_distance T) hr (by decide) rfl (pa_cons (pv 1) pa_nil))) (pss_one (ps_ret (pe_callB call_len_str (by rfl) T.b_len (by decide +kernel) (pa_cons (C8.pe_mt (ok_Row_word_at T) hr (by decide) (pv 0) (pa_cons (pv 1) pa_nil)) pa_nil))))), ?_⟩
    refine ⟨_, rfl, d, rfl, _, rfl, a, dx, _, rfl, ha, rowF_n1 t v, _, rfl, a, t, told, far, d, rfl, R, ok, hd, fun H' e => ⟨_, rfl, ?_, ?_⟩⟩
    · rw [tx_len]; exact Nat.le_trans (wordAt_len ok hd) (by decide)
    · rw [tx_len]; exact q H' e
theorem ok_Row_widths (T : Tx.TX K mg) : C8.Met P w K mg base 6 (He.ga K "Row") "widths" (spWidths K) [] := by
  refine metD (k := 5) T.d_Row_widths T.c_Row T.m_Row_widths Tx.sc_Row_widths (fun _ _ _ _ _ _ us hl => match us, hl with | [_], _ => rfl) ?len ?run
  case len => rintro vs H Q E ⟨a, t, told, far, rfl, _⟩; rfl
  case run =>
    rintro cdv A' outer s H vs Q E hr ⟨a, t, told, far, rfl, R, ok, q⟩
    obtain ⟨⟨dx, v, ha, hf⟩, ht⟩ := id R
    refine ⟨_, by exact (pss_one (ps_ret (pe_lc (own := [("distance", 1)]) (g := gName 1) (tt := tYes) rfl Tx.sc_Row_widths.nd (pi_range1 (by rfl) T.b_range (pa_cons (pe_op op_add (pe_callB call_len_seq (by rfl) T.b_len (by decide +kernel) (pa_cons (pe_fld (pv 0) rfl) pa_nil)) pe_int) pa_nil)) (blkOk_by (own := [("distance", 1)]) (N := Tx.N_Row_widths) (sc := defScope Tx.s_Row_widths) (by decide +kernel)) (fun _ _ _ _ _ => (pg_name (i := 1) Tx.sc_Row_widths.nd rfl (Or.inl rfl))) (fun _ _ _ _ _ => pts_nil) (fun _ _ _ _ _ => (C8.pe_mt (ok_Row_width T) hr (by decide) (pv 0) (pa_cons (pv 1) pa_nil)))))), ?_⟩
    have el : (tls told).length = told.length := List.length_map _
    have n8 := ok.n
    refine ⟨_, rfl, a, _, dx, _, _, rfl, ha, T.c_Row, T.na_Row_own_told, rowF_t t v, t, _, rfl, .inl (SqL.of ht), _, _, rfl, rfl, _, rfl, by omega, by omega, fun D hD => ?_⟩
    refine lc_it walk_range (fun i H' => H' D = some (.lst (wds told far i)) ∧ Ext [] H H') ⟨upd_same, Ext.new hD⟩ (fun _ _ _ _ => trivial) ?_ ?_
    · rintro i x H1 H2 hi ⟨g1, g2⟩ ⟨rfl, rfl⟩
      have R1 := R.ext0 g2
      obtain ⟨⟨dx1, v1, ha1, hf1⟩, ht1⟩ := id R1
      refine ⟨rfl, _, rfl, a, dx1, _, rfl, ha1, rowF_n3 t v1, _, rfl, a, t, told, far, i, (by show [V.ref a, V.int (0 + (i : Int))] = _; rw [Int.zero_add]), R1, ok, ?_, fun H3 e3 => ⟨_, e3 D _ (by simp) g1, ?_, ?_, Ext.mut (g2.trans e3) hD⟩⟩
      · exact Nat.lt_of_lt_of_le (show i < 2 ^ 10 by omega) (Nat.pow_le_pow_right (by decide) (by decide))
      · unfold wds
        rw [List.length_map, List.length_range]
        exact Nat.lt_of_lt_of_le (show i < 1000 by omega) (by decide)
      · rw [upd_same]
        unfold wds
        rw [List.range_succ, List.map_append]; rfl
    · rintro H1 ⟨g1, g2⟩
      have e : (((tls told).length : Int) + 1).toNat = told.length + 1 := by omega
      rw [e] at g1
      exact q D H1 g2 hD g1
end
end K15
set_option maxHeartbeats 4000000
namespace K15
open PySem PySem.Spec PyProof.Rows L2 Eb
/-! ## rows made, copied, changed -/
def spRowCopy (K : PySem.W.Frag) : Sp := fun vs H Q _ => ∃ (a t : Addr) (told : List (List Nat)) (far : Far), vs = [.ref a] ∧ RowAt K H a t told far ∧ RowOk told far ∧ ∀ b u H', Ext [] H H' → H b = none → H u = none → RowAt K H' b u told far → Q (.ref b) H'
def spSetFar (K : PySem.W.Frag) : Sp := fun vs H Q _ => ∃ (a t : Addr) (told : List (List Nat)) (far far' : Far) (v : V), vs = [.ref a, v] ∧ RowAt K H a t told far ∧ FarAt K H far' v ∧ FarOk far' ∧ ∀ H', Ext [a] H H' → RowAt K H' a t told far' → Q .non H'
/-- the told words with one set -/
def upTo (told : List (List Nat)) (far : Far) (n : Nat) : List (List Nat) := told ++ (List.range' told.length (n - told.length)).map (wordAt told far)
def setAt (told : List (List Nat)) (far : Far) (d : Nat) (l : List Nat) : List (List Nat) := (upTo told far (d + 1)).set d l
def spSetItem (K : PySem.W.Frag) : Sp := fun vs H Q _ => ∃ (a t : Addr) (told : List (List Nat)) (far : Far) (d : Nat) (l : List Nat), vs = [.ref a, .int d, .str (tx l)] ∧ RowAt K H a t told far ∧ RowOk told far ∧ d < 8 ∧ WOk l ∧ ∀ H', Ext [t] H H' → RowAt K H' a t (setAt told far d l) far → Q .non H'
theorem upTo_len (told : List (List Nat)) (far : Far) (n : Nat) : (upTo told far n).length = max told.length n := by
  unfold upTo
  rw [List.length_append, List.length_map, List.length_range']
  omega
theorem upTo_self (told : List (List Nat)) (far : Far) {n : Nat} (h : n ≤ told.length) : upTo told far n = told := by
  unfold upTo
  rw [show n - told.length = 0 by omega]
  simp
theorem upTo_succ (told : List (List Nat)) (far : Far) {n : Nat} (h : told.length ≤ n) : upTo told far (n + 1) = upTo told far n ++ [wordAt told far n] := by
  unfold upTo
  rw [show n + 1 - told.length = (n - told.length) + 1 by omega, List.range'_concat, List.map_append, List.append_assoc]
  congr 2
  show [wordAt told far (told.length + 1 * (n - told.length))] = _
  rw [show told.length + 1 * (n - told.length) = n by omega]
theorem wordAt_out {told : List (List Nat)} {far : Far} {n : Nat} (h : told.length ≤ n) : wordAt told far n = farWord far n := by
  unfold wordAt
  rw [List.getElem?_eq_none h]
/-- one more told word by the row itself changes no word -/
theorem wordAt_upTo (told : List (List Nat)) (far : Far) (n d : Nat) : wordAt (upTo told far n) far d = wordAt told far d := by
  by_cases h : n ≤ told.length
  · rw [upTo_self told far h]
  · by_cases h1 : d < told.length
    · unfold wordAt upTo
      rw [List.getElem?_append_left h1]
    · by_cases h2 : d < n
      · have e : (upTo told far n)[d]? = some (wordAt told far d) := by
          unfold upTo
          rw [List.getElem?_append_right (by omega), List.getElem?_map, List.getElem?_range' (by omega)]
          show some (wordAt told far (told.length + 1 * (d - told.length))) = _
          rw [show told.length + 1 * (d - told.length) = d by omega]
        show (match (upTo told far n)[d]? with | some l => l | none => farWord far d) = _
        rw [e]
      · rw [wordAt_out (told := upTo told far n) (by rw [upTo_len]; omega), wordAt_out (told := told) (by omega)]
theorem dig1 : ∀ i : Nat, i < 10 → dig i = [48 + i] := by
  intro i hi
  have h : ∀ i : Fin 10, dig i.val = [48 + i.val] := by decide +kernel
  exact h ⟨i, hi⟩
theorem okL_app {a b : List Nat} (h1 : okL a) (h2 : okL b) : okL (a ++ b) := by
  unfold okL at *
  rw [List.all_append, h1, h2]; rfl
theorem far_wok {far : Far} (h : FarOk far) {i : Nat} (hi : i < 10) : WOk (farWord far i) := by
  cases far with
  | word l => exact h
  | pat A B =>
    have sz := h.sz
    show WOk (A ++ dig i ++ B)
    rw [dig1 i hi]
    refine ⟨by rw [List.length_append, List.length_append, List.length_singleton]; omega, okL_app (okL_app h.a ?_) h.b⟩
    have h : ∀ i : Fin 10, okC (48 + i.val) = true := by decide
    have := h ⟨i, hi⟩
    unfold okL
    simpa using this
theorem word_wok {told : List (List Nat)} {far : Far} (h : RowOk told far) {i : Nat} (hi : i < 10) : WOk (wordAt told far i) := by
  unfold wordAt
  cases e : told[i]? with
  | some l => exact h.w l (List.mem_of_getElem? e)
  | none => exact far_wok h.f hi
theorem upTo_ok {told : List (List Nat)} {far : Far} (h : RowOk told far) {n : Nat} (hn : n ≤ 8) : RowOk (upTo told far n) far := by
  refine ⟨by rw [upTo_len]; have := h.n; omega, fun z hz => ?_, h.f⟩
  unfold upTo at hz
  rcases List.mem_append.mp hz with hz | hz
  · exact h.w z hz
  · obtain ⟨i, hi, rfl⟩ := List.mem_map.mp hz
    have := List.mem_range'_1.mp hi
    exact word_wok h (by omega)
theorem setAt_ok {told : List (List Nat)} {far : Far} (h : RowOk told far) {d : Nat} (hd : d < 8) {l : List Nat} (wl : WOk l) : RowOk (setAt told far d l) far := by
  have u := upTo_ok h (n := d + 1) (by omega)
  refine ⟨by unfold setAt; rw [List.length_set]; exact u.n, fun z hz => ?_, h.f⟩
  unfold setAt at hz
  rcases List.mem_or_eq_of_mem_set hz with hz | rfl
  · exact u.w z hz
  · exact wl
section
variable {P : Program} {w : World} {K : PySem.W.Frag} {mg : Str → Option Value} {base : Heap}
theorem ty_up {H H' : Hp} {v : V} {t : Value} (e : Ext [] H H') (h : TyX K H v t) : TyX K H' v t := by
  have up : ∀ {a : Addr} {u : HO}, H a = some u → H' a = some u := fun {a u} q => e a u (by simp) q
  cases h with
  | base b =>
    cases b with
    | non => exact .base .non
    | bl x => exact .base (.bl x)
    | int x => exact .base (.int x)
    | str x => exact .base (.str x)
    | flt x => exact .base (.flt x)
    | lst e => exact .base (.lst (up e))
    | frz e => exact .base (.frz (up e))
    | tup e => exact .base (.tup (up e))
    | dK e => exact .base (.dK (up e))
    | dT e => exact .base (.dT (up e))
    | ins e a b c d f => exact .base (.ins (up e) a b c d f)
  | byt b => exact .byt b
  | set e => exact .set (up e)
  | kList e c => exact .kList e c
  | kTuple e c => exact .kTuple e c
  | kDict e c => exact .kDict e c
  | fTuple e => exact .fTuple (up e)
  | fDict e => exact .fDict (up e)
theorem sqL_up {H H' : Hp} {a : Addr} {xs : List V} (e : Ext [] H H') (h : SqL K H a xs) : SqL K H' a xs := (Ext.same e).seq h
theorem sqT_up {H H' : Hp} {a : Addr} {xs : List V} (e : Ext [] H H') (h : SqT K H a xs) : SqT K H' a xs := by
  rcases h with (h | ⟨o, h⟩) | h
  · exact .inl (.inl (e a _ (by simp) h))
  · exact .inl (.inr ⟨o, e a _ (by simp) h⟩)
  · exact .inr h
/-- the words of a row as __init__ asks them -/
def Told (K : PySem.W.Frag) (H : Hp) (l : Addr) (told : List (List Nat)) : Prop := (SqL K H l (tls told) ∧ TyX K H (.ref l) (.type "list")) ∨ (SqT K H l (tls told) ∧ TyX K H (.ref l) (.type "tuple"))
theorem Told.up {H H' : Hp} {l : Addr} {told : List (List Nat)} (e : Ext [] H H') (h : Told K H l told) : Told K H' l told :=
  h.elim (fun h => .inl ⟨sqL_up e h.1, ty_up e h.2⟩) (fun h => .inr ⟨sqT_up e h.1, ty_up e h.2⟩)
theorem Told.sq {H : Hp} {l : Addr} {told : List (List Nat)} (h : Told K H l told) : SqL K H l (tls told) ∨ SqT K H l (tls told) := h.elim (fun h => .inl h.1) (fun h => .inr h.1)
theorem by_Row_init (T : Tx.TX K mg) {f : Addr} : By P w K mg base 3 f Tx.N_Row_init "Row.__init__" (defBody Tx.s_Row_init) (defScope Tx.s_Row_init) (spRowInit K) := by
    rintro cdv A' outer s H vs Q E hr ⟨a, dx, l, v, told, far, rfl, ha, hl, hf, ok, q⟩
    have hl : Told K H l told := hl
    refine ⟨_, by exact (pss_cons (ps_if (PW.pt (pw_or (pt_not (pt_val (C8.pe_c (ok_is_list T) hr (by decide) rfl (pa_cons (pv 1) pa_nil)))) (pw_or1 (pt_cmpR op_gt (pe_callB call_len_seq (by rfl) T.b_len (by decide +kernel) (pa_cons (pv 1) pa_nil)) (pe_gi T.k_MOST_TOLD) (nomark _))))) (pss_one ps_never) pss_nil) (pss_cons (ps_j (ps_for PassesOwn.never rfl (pi_or (pi_list (pv 1)) (pi_tup (pv 1))) (pg_name (i := 3) Tx.sc_Row_init.nd rfl (Or.inl rfl)) (pss_one (ps_if (pt_not (pt_val (C8.pe_c (ok_is_word T) hr (by decide) rfl (pa_cons (pv 3) pa_nil)))) (pss_one ps_never) pss_nil)))) (pss_cons (ps_if (pt_not (pt_val (C8.pe_c (ok_is_far T) hr (by decide) rfl (pa_cons (pv 2) pa_nil)))) (pss_one ps_never) pss_nil) (pss_cons (ps_fld (pv 0) (pe_callTy call_list_of (by rfl) T.b_list (by decide +kernel) (pa_cons (pv 1) pa_nil)) rfl) (pss_one (ps_fld (pv 0) (pv 2) rfl)))))), ?_⟩
    have el : (tls told).length = told.length := List.length_map _
    have n8 := ok.n
    refine ⟨_, rfl, _, rfl, hl.elim (fun h => .inl h.2) (fun h => .inr h.2), fun H1 e1 => ⟨_, rfl, itF rfl ?_⟩⟩
    have hl1 := hl.up e1
    refine ⟨_, rfl, l, _, rfl, hl1.sq, _, _, rfl, rfl, _, rfl, itF (dF (by omega)) ?_⟩
    refine ⟨fun σ' H' => (∃ o, σ' = [some (.ref a), some (.ref l), some v, o]) ∧ Ext [] H H', ?_, ?_⟩
    · rcases hl1 with ⟨h1, _⟩ | ⟨h1, _⟩
      · refine .inl ⟨_, rfl, l, rfl, ⟨_, h1⟩, for_it (walk_list (K := K) (a := l) (xs := tls told)) (fun i σ H' => (∃ o, σ = [some (.ref a), some (.ref l), some v, o]) ∧ Ext [] H1 H') ⟨⟨none, rfl⟩, Ext.refl _⟩ (fun i σ H' _ h => sqL_up h.2 h1) ?_ (fun σ H' h => ⟨h.1, e1.trans h.2⟩)⟩
        rintro i x σ H2 H3 hi h ⟨rfl, hx⟩
        obtain ⟨⟨o, rfl⟩, e2⟩ := h
        unfold tls at hx
        rw [List.getElem?_map] at hx
        cases hc : told[i]? with
        | none => rw [hc] at hx; cases hx
        | some z =>
          rw [hc] at hx
          cases hx
          have oz := ok.w z (List.mem_of_getElem? hc)
          exact ⟨_, rfl, _, rfl, .inl ⟨_, rfl, by rw [tx_len]; exact Nat.le_trans oz.sz (by decide), fun H3 e3 => ⟨_, rfl, itF (by rw [wdB_of oz]; rfl) ⟨⟨_, rfl⟩, e2.trans e3⟩⟩⟩⟩
      · refine .inr ⟨_, rfl, l, rfl, ⟨_, h1⟩, for_it (walk_tup (K := K) (a := l) (xs := tls told)) (fun i σ H' => (∃ o, σ = [some (.ref a), some (.ref l), some v, o]) ∧ Ext [] H1 H') ⟨⟨none, rfl⟩, Ext.refl _⟩ (fun i σ H' _ h => sqT_up h.2 h1) ?_ (fun σ H' h => ⟨h.1, e1.trans h.2⟩)⟩
        rintro i x σ H2 H3 hi h ⟨rfl, hx⟩
        obtain ⟨⟨o, rfl⟩, e2⟩ := h
        unfold tls at hx
        rw [List.getElem?_map] at hx
        cases hc : told[i]? with
        | none => rw [hc] at hx; cases hx
        | some z =>
          rw [hc] at hx
          cases hx
          have oz := ok.w z (List.mem_of_getElem? hc)
          exact ⟨_, rfl, _, rfl, .inl ⟨_, rfl, by rw [tx_len]; exact Nat.le_trans oz.sz (by decide), fun H3 e3 => ⟨_, rfl, itF (by rw [wdB_of oz]; rfl) ⟨⟨_, rfl⟩, e2.trans e3⟩⟩⟩⟩
    · rintro σ' H2 ⟨⟨o, rfl⟩, e2⟩
      refine ⟨_, rfl, far, v, rfl, hf.ext0 e2, ok.f, fun H3 e3 => ⟨_, rfl, itF rfl ?_⟩⟩
      have e23 := e2.trans e3
      have hl3 := hl.up e23
      have ha3 := e23 a _ (by simp) ha
      refine ⟨_, rfl, l, _, rfl, hl3.sq, fun t ht => ?_⟩
      have nt : a ≠ t := ne_of_none ha3 ht
      refine ⟨_, rfl, a, _, dx, _, rfl, (by rw [upd_ne nt]; exact ha3), T.c_Row, T.na_Row_own_told, by decide, _, rfl, _, rfl, a, _, dx, _, rfl, upd_same, T.c_Row, T.na_Row_own_far, putF_lt 0 (Nat.le_refl _) (by decide), ?_⟩
      have ex : Ext [a] H (upd (upd (upd H3 t (.lst (tls told))) a (.ins (cRow K) dx (putF "own_told" (.ref t) []))) a (.ins (cRow K) dx (putF "own_far" v (putF "own_told" (.ref t) [])))) := ((e23.sub (by simp)).trans (Ext.new ht)).trans ((Ext.put mem1).trans (Ext.put mem1))
      refine q t _ (Ext.free e23 ht) ex ⟨⟨dx, v, by rw [upd_same, rowF_put], hf.ext ex fun b hb C dy A B z => ?_⟩, ?_⟩
      · cases List.mem_singleton.mp hb
        rw [ha] at z
        cases z
      · rw [upd_ne nt.symm, upd_ne nt.symm, upd_same]
end
end K15
set_option maxHeartbeats 4000000
namespace K15
open PySem PySem.Spec PyProof.Rows L2 Eb
section
variable {P : Program} {w : World} {K : PySem.W.Frag} {mg : Str → Option Value} {base : Heap}
theorem len_Row_init : ∀ vs H Q E, spRowInit K vs H Q E → vs.length = (["self", "words", "far"] : List Str).length := by
  rintro vs H Q E ⟨a, dx, l, v, told, far, rfl, _⟩; rfl
theorem ok_Row_init (T : Tx.TX K mg) : C8.Mak P w K mg base 4 "Row" (cRow K) (spRowInit K) [] :=
  makD1 (k := 3) T.d_Row_init T.mk_Row T.g_Row Tx.sc_Row_init 3 2 (by simp) rfl (fun _ _ _ _ _ _ _ us its h1 h2 => match us, its, h1, h2 with | [_, _, _], [_, _], _, _ => ⟨_, rfl, rfl⟩) len_Row_init (by_Row_init T)
theorem ok_Row_init0 (T : Tx.TX K mg) : C8.Mak P w K mg base 4 "Row" (cRow K) (spRowInit K) [.ref (He.dflAt ("Row", some "__init__") 0 K), .str ""] :=
  makD1 (k := 3) T.d_Row_init T.mk_Row T.g_Row Tx.sc_Row_init 1 0 (by simp) rfl (fun _ _ _ _ _ _ _ us its h1 h2 => match us, its, h1, h2 with | [_], [_, _], _, _ => ⟨_, rfl, rfl⟩) len_Row_init (by_Row_init T)
theorem ok_Row_copy (T : Tx.TX K mg) : C8.Met P w K mg base 6 (He.ga K "Row") "copy" (spRowCopy K) [] := by
  refine metD (k := 5) T.d_Row_copy T.c_Row T.m_Row_copy Tx.sc_Row_copy (fun _ _ _ _ _ _ us hl => match us, hl with | [_], _ => rfl) ?len ?run
  case len => rintro vs H Q E ⟨a, t, told, far, rfl, _⟩; rfl
  case run =>
    rintro cdv A' outer s H vs Q E hr ⟨a, t, told, far, rfl, R, ok, q⟩
    obtain ⟨⟨dx, v, ha, hf⟩, ht⟩ := id R
    refine ⟨_, by exact (pss_one (ps_ret (C8.pe_mk (ok_Row_init T) hr (by decide) rfl (pa_cons (pe_fld (pv 0) rfl) (pa_cons (pe_fld (pv 0) rfl) pa_nil))))), ?_⟩
    refine ⟨_, rfl, a, _, dx, _, _, rfl, ha, T.c_Row, T.na_Row_own_told, rowF_t t v, _, rfl, a, _, dx, _, _, rfl, ha, T.c_Row, T.na_Row_own_far, rowF_f t v, fun x dy nx nd ne => ?_⟩
    have e0 : Ext [] H (upd (upd H dy (.own x)) x (.ins (cRow K) dy [])) := fun b o _ z => by
      rw [upd_ne (ne_of_none z nx), upd_ne (ne_of_none z nd)]; exact z
    refine ⟨x, dy, t, v, told, far, rfl, upd_same, .inl ⟨SqL.of (e0 t _ (by simp) ht), .base (.lst (e0 t _ (by simp) ht))⟩, hf.ext0 e0, ok, fun u H' nu e' R' => ⟨rfl, ?_⟩⟩
    exact q x u H' (Ext.made nx nd e') nx (Ext.free e0 nu) R'
theorem ok_Row_set_far (T : Tx.TX K mg) : C8.Met P w K mg base 4 (He.ga K "Row") "set_far" (spSetFar K) [] := by
  refine metD (k := 3) T.d_Row_set_far T.c_Row T.m_Row_set_far Tx.sc_Row_set_far (fun _ _ _ _ _ _ us hl => match us, hl with | [_, _], _ => rfl) ?len ?run
  case len => rintro vs H Q E ⟨a, t, told, far, far', v, rfl, _⟩; rfl
  case run =>
    rintro cdv A' outer s H vs Q E hr ⟨a, t, told, far, far', v, rfl, R, hf', ok, q⟩
    refine ⟨_, by exact (pss_cons (ps_if (pt_not (pt_val (C8.pe_c (ok_is_far T) hr (by decide) rfl (pa_cons (pv 1) pa_nil)))) (pss_one ps_never) pss_nil) (pss_one (ps_fld (pv 0) (pv 1) rfl))), ?_⟩
    refine ⟨_, rfl, far', v, rfl, hf', ok, fun H1 e1 => ⟨_, rfl, itF rfl ?_⟩⟩
    obtain ⟨⟨dx, v0, ha, hf⟩, ht⟩ := R.ext0 e1
    refine ⟨_, rfl, _, rfl, a, _, dx, _, rfl, ha, T.c_Row, T.na_Row_own_far, (by show 2 < 1000; decide), ?_⟩
    have nt : t ≠ a := ne_of ht ha (by intro z; cases z)
    have ex : Ext [a] H (upd H1 a (.ins (cRow K) dx (putF "own_far" v (rowF t v0)))) := (e1.sub (by simp)).trans (Ext.put mem1)
    refine q _ ex ⟨⟨dx, v, by rw [upd_same, rowF_set], ?_⟩, by rw [upd_ne nt]; exact ht⟩
    refine (hf'.ext0 e1).ext (Ext.put mem1) fun b hb C dy A B z => ?_
    cases List.mem_singleton.mp hb
    rw [ha] at z
    exact absurd (congrArg (fun o => match o with | some (HO.ins _ _ fs) => fs.length | _ => 0) z) (by show ¬ (2 = 3); decide)
theorem ok_Row_setitem (T : Tx.TX K mg) : C8.Met P w K mg base 5 (He.ga K "Row") "__setitem__" (spSetItem K) [] := by
  refine metD (k := 4) T.d_Row_setitem T.c_Row T.m_Row_setitem Tx.sc_Row_setitem (fun _ _ _ _ _ _ us hl => match us, hl with | [_, _, _], _ => rfl) ?len ?run
  case len => rintro vs H Q E ⟨a, t, told, far, d, l, rfl, _⟩; rfl
  case run =>
    rintro cdv A' outer s H vs Q E hr ⟨a, t, told, far, d, l, rfl, R, ok, hd, wl, q⟩
    refine ⟨_, by exact (pss_cons (ps_if (PW.pt (pw_or (pt_not (pt_val (C8.pe_c (ok_is_count T) hr (by decide) rfl (pa_cons (pv 1) pa_nil)))) (pw_or1 (pt_cmpR op_ge (pv 1) (pe_gi T.k_MOST_TOLD) (nomark _))))) (pss_one ps_never) pss_nil) (pss_cons (ps_if (pt_not (pt_val (C8.pe_c (ok_is_word T) hr (by decide) rfl (pa_cons (pv 2) pa_nil)))) (pss_one ps_never) pss_nil) (pss_cons (ps_while PassesOwn.never (pt_cmpR op_le (pe_callB call_len_seq (by rfl) T.b_len (by decide +kernel) (pa_cons (pe_fld (pv 0) rfl) pa_nil)) (pv 1) (nomark _)) (pss_one (ps_expr (pe_bm PySem.F.plainAttrs_list PySem.F.slot_list_append PySem.F.type_list_append mt_append (pe_fld (pv 0) rfl) (pa_cons (C8.pe_mt (ok_Row_word_at T) hr (by decide) (pv 0) (pa_cons (pe_callB call_len_seq (by rfl) T.b_len (by decide +kernel) (pa_cons (pe_fld (pv 0) rfl) pa_nil)) pa_nil)) pa_nil))))) (pss_one (ps_asg (pv 2) (pg_sub (pe_fld (pv 0) rfl) (pv 1) set_list)))))), ?_⟩
    refine ⟨_, rfl, d, rfl, _, rfl, itF (by rw [decide_eq_true (by omega)]; rfl) ?_⟩
    refine ⟨_, rfl, _, _, rfl, rfl, _, rfl, itF (dF (by omega)) ?_⟩
    refine ⟨_, rfl, _, rfl, .inl ⟨_, rfl, by rw [tx_len]; exact Nat.le_trans wl.sz (by decide), fun H1 e1 => ⟨_, rfl, itF (by rw [wdB_of wl]; rfl) ?_⟩⟩⟩
    have R1 := R.ext0 e1
    -- while len(self.own_told) <= at
    refine ⟨fun m σ H' => σ = [some (.ref a), some (.int d), some (.str (tx l))] ∧ Ext [t] H H' ∧ ∃ n, m = 9 - n ∧ told.length ≤ n ∧ n ≤ 8 ∧ RowAt K H' a t (upTo told far n) far ∧ n ≤ max told.length (d + 1), ⟨_, rfl, e1.sub (by simp), told.length, rfl, Nat.le_refl _, ok.n, by rw [upTo_self told far (Nat.le_refl _)]; exact R1, by omega⟩, ?_⟩
    rintro m σ H2 ⟨rfl, e2, n, rfl, n1, n2, R2, n3⟩
    obtain ⟨⟨dx, v, ha, hf⟩, ht⟩ := id R2
    have el : (tls (upTo told far n)).length = n := by unfold tls; rw [List.length_map, upTo_len]; omega
    have okn := upTo_ok ok n2
    · refine ⟨_, rfl, a, _, dx, _, _, rfl, ha, T.c_Row, T.na_Row_own_told, rowF_t t v, t, _, rfl, .inl (SqL.of ht), _, rfl, _, _, rfl, rfl, _, rfl, it2 (fun c => ?_) (fun c => ?_)⟩
      · have c' := of_decide_eq_true c
        rw [el] at c'
        refine ⟨fun σ' H' => σ' = [some (.ref a), some (.int d), some (.str (tx l))] ∧ Ext [t] H H' ∧ RowAt K H' a t (upTo told far (n + 1)) far, fun σ' H' h => ⟨9 - (n + 1), by omega, h.1, h.2.1, n + 1, rfl, by omega, by omega, h.2.2, by omega⟩, ?_⟩
        refine ⟨_, rfl, a, _, dx, _, _, rfl, ha, T.c_Row, T.na_Row_own_told, rowF_t t v, .inl ⟨rfl, _, SqL.of ht⟩, _, rfl, a, dx, _, rfl, ha, rowF_n1 t v, _, rfl, a, _, dx, _, _, rfl, ha, T.c_Row, T.na_Row_own_told, rowF_t t v, t, _, rfl, .inl (SqL.of ht), a, t, upTo told far n, far, n, (by rw [el]; rfl), R2, okn, ?_, fun H3 e3 => ?_⟩
        · exact Nat.lt_of_lt_of_le (show n < 2 ^ 10 by omega) (Nat.pow_le_pow_right (by decide) (by decide))
        · have R3 := R2.ext0 e3
          obtain ⟨⟨dx3, v3, ha3, hf3⟩, ht3⟩ := id R3
          refine ⟨t, _, _, rfl, rfl, ht3, by rw [el]; exact Nat.lt_of_le_of_lt n2 (by decide), rfl, (e2.trans (e3.sub (by simp))).trans (Ext.put mem1), ?_⟩
          have nat : a ≠ t := ne_of ha3 ht3 (by intro z; cases z)
          refine ⟨⟨dx3, v3, by rw [upd_ne nat]; exact ha3, hf3.ext (Ext.put mem1) fun b hb C dy A B z => ?_⟩, ?_⟩
          · cases List.mem_singleton.mp hb
            rw [ht3] at z
            cases z
          · rw [upd_same, wordAt_upTo, upTo_succ told far n1]
            unfold tls
            rw [List.map_append]; rfl
      · have c' := of_decide_eq_false c
        rw [el] at c'
        have en : upTo told far (d + 1) = upTo told far n := by
          by_cases h : d + 1 ≤ told.length
          · rw [upTo_self told far h]
            have : n = told.length := by omega
            rw [this, upTo_self told far (Nat.le_refl _)]
          · rw [show n = d + 1 by omega]
        have hd' : d < n := by omega
        refine ⟨_, rfl, _, rfl, a, _, dx, _, _, rfl, ha, T.c_Row, T.na_Row_own_told, rowF_t t v, _, rfl, t, _, _, d, rfl, rfl, ht, ?_, ?_⟩
        · unfold ixN
          rw [if_pos (by omega), if_pos (by omega)]
          simp
        · have nat : a ≠ t := ne_of ha ht (by intro z; cases z)
          refine q _ (e2.trans (Ext.put mem1)) ⟨⟨dx, v, by rw [upd_ne nat]; exact ha, hf.ext (Ext.put mem1) fun b hb C dy A B z => ?_⟩, ?_⟩
          · cases List.mem_singleton.mp hb
            rw [ht] at z
            cases z
          · rw [upd_same]
            unfold setAt tls
            rw [en, List.map_set]
end
end K15
set_option maxHeartbeats 4000000
namespace K15
open PySem PySem.Spec PyProof.Rows L2 Eb
/-! ## the law's own plans -/
def spWord : Sp := fun vs H Q _ => ∃ (r : Addr) (n : Nat), vs = [.ref r, .int n] ∧ RngAt H r ∧ n ≤ 100 ∧ ∀ (l : List Nat) (H' : Hp), l.length = n → okL l → Ext [r] H H' → RngAt H' r → Q (.str (tx l)) H'
def spAnyWord : Sp := fun vs H Q _ => ∃ r : Addr, vs = [.ref r] ∧ RngAt H r ∧ ∀ (l : List Nat) (H' : Hp), WOk l → Ext [r] H H' → RngAt H' r → Q (.str (tx l)) H'
def spPatText : Sp := fun vs H Q _ => ∃ r : Addr, vs = [.ref r] ∧ RngAt H r ∧ ∀ (A B : List Nat) (H' : Hp), PatOk A B → Ext [r] H H' → RngAt H' r → Q (.str (tx (A ++ 35 :: B))) H'
def farT : Far → List Nat
  | .word l => l
  | .pat A B => A ++ 35 :: B
/-- a plan: a tuple of the told words and the text of the far word -/
structure PlanAt (H : Hp) (p l : Addr) (told : List (List Nat)) (far : Far) : Prop where
  tp : H p = some (.tup [.ref l, .str (tx (farT far))])
  ls : H l = some (.lst (tls told))
theorem PlanAt.ext {R : List Addr} {H H' : Hp} {p l : Addr} {told : List (List Nat)} {far : Far} (h : PlanAt H p l told far) (e : Ext R H H') (np : p ∉ R) (nl : l ∉ R) : PlanAt H' p l told far := ⟨e p _ np h.tp, e l _ nl h.ls⟩
theorem PlanAt.ext0 {H H' : Hp} {p l : Addr} {told : List (List Nat)} {far : Far} (h : PlanAt H p l told far) (e : Ext [] H H') : PlanAt H' p l told far := h.ext e (by simp) (by simp)
theorem PlanAt.extR {H H' : Hp} {p l r : Addr} {told : List (List Nat)} {far : Far} (h : PlanAt H p l told far) (hR : RngAt H r) (e : Ext [r] H H') : PlanAt H' p l told far := by
  obtain ⟨x, y, h1, _⟩ := hR
  refine h.ext e ?_ ?_
  · intro z; cases List.mem_singleton.mp z; have := h.tp; rw [h1] at this; cases this
  · intro z; cases List.mem_singleton.mp z; have := h.ls; rw [h1] at this; exact tls_ne told x y (HO.lst.inj (Option.some.inj this)).symm
def spPlan : Sp := fun vs H Q _ => ∃ r : Addr, vs = [.ref r] ∧ RngAt H r ∧ ∀ (p l : Addr) (told : List (List Nat)) (far : Far) (H' : Hp), RowOk told far → Ext [r] H H' → RngAt H' r → H p = none → H l = none → PlanAt H' p l told far → Q (.ref p) H'
def spFar (K : PySem.W.Frag) : Sp := fun vs H Q _ => ∃ far : Far, vs = [.str (tx (farT far))] ∧ FarOk far ∧ ∀ v H', Ext [] H H' → FarAt K H' far v → Q v H'
def spReal (K : PySem.W.Frag) : Sp := fun vs H Q _ => ∃ (p l : Addr) (told : List (List Nat)) (far : Far), vs = [.ref p] ∧ PlanAt H p l told far ∧ RowOk told far ∧ ∀ a t H', Ext [] H H' → H a = none → H t = none → RowAt K H' a t told far → Q (.ref a) H'
def spAt : Sp := fun vs H Q _ => ∃ (p l : Addr) (told : List (List Nat)) (far : Far) (d : Nat), vs = [.ref p, .int d] ∧ PlanAt H p l told far ∧ RowOk told far ∧ d < 2 ^ 1900 ∧ ∀ H', Ext [] H H' → Q (.str (tx (wordAt told far d))) H'
theorem okL_ne {l : List Nat} (h : okL l) : ∀ c ∈ l, c ≠ 35 := fun c hc e => by
  have := List.all_eq_true.mp h c hc
  rw [e] at this
  exact absurd this (by decide)
theorem okL_mem {l : List Nat} (h : ∀ c ∈ l, okC c = true) : okL l := List.all_eq_true.mpr h
theorem okL_take {l : List Nat} (n : Nat) (h : okL l) : okL (l.take n) := okL_mem fun c hc => List.all_eq_true.mp h c (List.mem_of_mem_take hc)
theorem okL_drop {l : List Nat} (n : Nat) (h : okL l) : okL (l.drop n) := okL_mem fun c hc => List.all_eq_true.mp h c (List.mem_of_mem_drop hc)
theorem hash_mem (far : Far) (h : FarOk far) : decide (35 ∈ (tx (farT far)).cps.toList) = isPat far := by
  rw [tx_list]
  cases far with
  | word l => exact decide_eq_false fun z => okL_ne h.ok 35 z rfl
  | pat A B => exact decide_eq_true (by simp [farT])
section
variable {P : Program} {w : World} {K : PySem.W.Frag} {mg : Str → Option Value} {base : Heap}
theorem ok__law_word (T : Tx.TX K mg) : C8.Cal P w K mg base 3 "_law_word" (spWord) [] := by
  refine calD (k := 2) T.d__law_word T.g__law_word Tx.sc__law_word (fun _ _ _ _ _ _ us hl => match us, hl with | [_, _], _ => rfl) ?len ?run
  case len => rintro vs H Q E ⟨r, n, rfl, _⟩; rfl
  case run =>
    rintro cdv A' outer s H vs Q E hr ⟨r, n, rfl, hR, hn, q⟩
    refine ⟨_, by exact (pss_cons (ps_set (i := 2) Tx.sc__law_word.nd rfl (Or.inr rfl) pe_str) (pss_one (ps_ret (pe_join pe_str (pe_lc (own := [("_law_turn", 3)]) (g := gName 3) (tt := tYes) rfl Tx.sc__law_word.nd (pi_range1 (by rfl) T.b_range (pa_cons (pv 1) pa_nil)) (blkOk_by (own := [("_law_turn", 3)]) (N := Tx.N__law_word) (sc := defScope Tx.s__law_word) (by decide +kernel)) (fun _ _ _ _ _ => (pg_name (i := 3) Tx.sc__law_word.nd rfl (Or.inl rfl))) (fun _ _ _ _ _ => pts_nil) (fun _ _ _ _ _ => (C8.pe_c (ok__law_choice T) hr (by decide) rfl (pa_cons (pv 0) (pa_cons (pv 2) pa_nil))))))))), ?_⟩
    refine ⟨⟨_, rfl⟩, _, rfl, _, rfl, by omega, by omega, fun D hD => ?_⟩
    have nD : D ≠ r := RngAt.ne hR hD
    refine lc_it walk_range (fun i H' => ∃ l : List Nat, l.length = i ∧ okL l ∧ H' D = some (.lst (l.map sg)) ∧ Ext [r] H H' ∧ RngAt H' r) ⟨[], rfl, rfl, upd_same, Ext.new hD, hR.new hD⟩ (fun _ _ _ _ => trivial) ?_ ?_
    · rintro i x H1 H2 hi ⟨l, l1, l2, g1, g2, g3⟩ ⟨rfl, rfl⟩
      refine ⟨rfl, _, rfl, _, rfl, .inr ⟨r, _, rfl, g3, by decide +kernel, by decide +kernel, fun c H3 hc e3 R3 => ?_⟩⟩
      refine ⟨_, e3 D _ (by simpa using nD) g1, ?_, l ++ [c], by simp [l1], okL_app l2 ?_, ?_, Ext.mut (g2.trans e3) hD, ?_⟩
      · rw [List.length_map, l1]
        exact Nat.lt_of_lt_of_le (show i < 1000 by omega) (by decide)
      · have hs : ∀ c ∈ (PySem.Str.ofString " ab9 !$&'()*+,-./0123456789:;<=>?@ABCDEFGHIJKLMNOPQRSTUVWXYZ[]^_`abcdefghijklmnopqrstuvwxyz{|}~").cps.toList, okC c = true := by decide +kernel
        exact okL_mem fun c' hc' => by cases List.mem_singleton.mp hc'; exact hs c hc
      · rw [upd_same, List.map_append]; rfl
      · obtain ⟨a, b, h1, h2⟩ := R3
        exact ⟨a, b, by rw [upd_ne nD.symm]; exact h1, h2⟩
    · rintro H1 ⟨l, l1, l2, g1, g2, g3⟩
      have en : ((n : Int)).toNat = n := by omega
      refine ⟨_, D, l.map (fun c => tx [c]), rfl, rfl, .inl (SqL.of (by rw [g1, List.map_map]; rfl)), ?_, ?_⟩
      · have z : (PySem.Str.ofString "").length = 0 := by decide +kernel
        rw [z, Nat.mul_zero, Nat.add_zero, List.map_map]
        have : ((l.map ((fun x => x.length) ∘ fun c => tx [c])).sum) = l.length := by
          clear l1 l2 g1
          induction l with
          | nil => rfl
          | cons c r ih => rw [List.map_cons, List.sum_cons, ih, List.length_cons]; show 1 + _ = _; omega
        rw [this, l1]
        omega
      · rw [join_signs]
        exact q l H1 (by omega) l2 g2 g3
theorem ok__law_any_word (T : Tx.TX K mg) : C8.Cal P w K mg base 4 "_law_any_word" (spAnyWord) [] := by
  refine calD (k := 3) T.d__law_any_word T.g__law_any_word Tx.sc__law_any_word (fun _ _ _ _ _ _ us hl => match us, hl with | [_], _ => rfl) ?len ?run
  case len => rintro vs H Q E ⟨r, rfl, _⟩; rfl
  case run =>
    rintro cdv A' outer s H vs Q E hr ⟨r, rfl, hR, q⟩
    refine ⟨_, by exact (pss_one (ps_ret (C8.pe_c (ok__law_word T) hr (by decide) rfl (pa_cons (pv 0) (pa_cons (C8.pe_c (ok__law_choice T) hr (by decide) rfl (pa_cons (pv 0) (pa_cons (pe_lst (pa_cons pe_int (pa_cons pe_int (pa_cons pe_int (pa_cons pe_int (pa_cons pe_int (pa_cons pe_int (pa_cons pe_int (pa_cons pe_int (pa_cons pe_int (pa_cons pe_int pa_nil))))))))))) pa_nil))) pa_nil))))), ?_⟩
    refine ⟨_, rfl, _, rfl, (by show 10 ≤ sizeLine; decide), fun p np => .inl ⟨r, p, _, rfl, hR.new np, RngAt.ne hR np, upd_same, by decide, by decide, fun v H1 hv e1 R1 => ?_⟩⟩
    have : ∃ n : Nat, n ≤ 20 ∧ v = .int n := by
      simp only [List.mem_cons, List.not_mem_nil, or_false] at hv
      rcases hv with rfl | rfl | rfl | rfl | rfl | rfl | rfl | rfl | rfl | rfl
      · exact ⟨0, by decide, rfl⟩
      · exact ⟨1, by decide, rfl⟩
      · exact ⟨2, by decide, rfl⟩
      · exact ⟨3, by decide, rfl⟩
      · exact ⟨4, by decide, rfl⟩
      · exact ⟨5, by decide, rfl⟩
      · exact ⟨7, by decide, rfl⟩
      · exact ⟨10, by decide, rfl⟩
      · exact ⟨19, by decide, rfl⟩
      · exact ⟨20, by decide, rfl⟩
    obtain ⟨n, hn, rfl⟩ := this
    exact ⟨r, n, rfl, R1, by omega, fun l H2 l1 l2 e2 R2 => q l H2 ⟨by omega, l2⟩ (((Ext.new np).trans e1).trans e2) R2⟩
theorem ok__law_pattern_text (T : Tx.TX K mg) : C8.Cal P w K mg base 4 "_law_pattern_text" (spPatText) [] := by
  refine calD (k := 3) T.d__law_pattern_text T.g__law_pattern_text Tx.sc__law_pattern_text (fun _ _ _ _ _ _ us hl => match us, hl with | [_], _ => rfl) ?len ?run
  case len => rintro vs H Q E ⟨r, rfl, _⟩; rfl
  case run =>
    rintro cdv A' outer s H vs Q E hr ⟨r, rfl, hR, q⟩
    refine ⟨_, by exact (pss_cons (ps_set (i := 1) Tx.sc__law_pattern_text.nd rfl (Or.inl rfl) (C8.pe_c (ok__law_word T) hr (by decide) rfl (pa_cons (pv 0) (pa_cons (C8.pe_c (ok__law_choice T) hr (by decide) rfl (pa_cons (pv 0) (pa_cons (pe_lst (pa_cons pe_int (pa_cons pe_int (pa_cons pe_int (pa_cons pe_int (pa_cons pe_int (pa_cons pe_int (pa_cons pe_int (pa_cons pe_int pa_nil))))))))) pa_nil))) pa_nil)))) (pss_cons (ps_set (i := 2) Tx.sc__law_pattern_text.nd rfl (Or.inl rfl) (C8.pe_c (ok__law_draw T) hr (by decide) rfl (pa_cons (pv 0) (pa_cons (pe_op op_add (pe_callB call_len_str (by rfl) T.b_len (by decide +kernel) (pa_cons (pv 1) pa_nil)) pe_int) pa_nil)))) (pss_one (ps_ret (pe_op op_add_str (pe_op op_add_str (pe_slice sl_str (pv 1) po_none (po_some (pv 2))) pe_str) (pe_slice sl_str (pv 1) (po_some (pv 2)) po_none)))))), ?_⟩
    refine ⟨_, rfl, _, rfl, (by show 8 ≤ sizeLine; decide), fun p np => .inl ⟨r, p, _, rfl, hR.new np, RngAt.ne hR np, upd_same, by decide, by decide, fun v H1 hv e1 R1 => ?_⟩⟩
    have : ∃ n : Nat, n ≤ 19 ∧ v = .int n := by
      simp only [List.mem_cons, List.not_mem_nil, or_false] at hv
      rcases hv with rfl | rfl | rfl | rfl | rfl | rfl | rfl | rfl
      · exact ⟨0, by decide, rfl⟩
      · exact ⟨0, by decide, rfl⟩
      · exact ⟨1, by decide, rfl⟩
      · exact ⟨2, by decide, rfl⟩
      · exact ⟨5, by decide, rfl⟩
      · exact ⟨13, by decide, rfl⟩
      · exact ⟨18, by decide, rfl⟩
      · exact ⟨19, by decide, rfl⟩
    obtain ⟨n, hn, rfl⟩ := this
    refine ⟨r, n, rfl, R1, by omega, fun l H2 l1 l2 e2 R2 => ?_⟩
    refine ⟨_, rfl, _, rfl, _, rfl, by rw [tx_len]; exact sz1000 (by omega), _, _, rfl, rfl, r, _, rfl, R2, by rw [tx_len]; omega, by rw [tx_len]; omega, fun d H3 d0 d1 e3 R3 => ?_⟩
    have ed : d = ((d.toNat : Nat) : Int) := by omega
    rw [tx_len] at d1
    have sl : (tx l).length ≤ sizeLine := by rw [tx_len]; exact sz1000 (by omega)
    have hz : (PySem.Str.ofString "#").length = 1 := by decide +kernel
    have h35 : (PySem.Str.ofString "#" : Str) = tx [35] := by rw [hash_eq]; rfl
    rw [ed]
    refine ⟨_, rfl, _, rfl, _, rfl, _, rfl, sl, _, _, rfl, rfl, ?_, _, rfl, _, rfl, _, rfl, _, rfl, sl, _, _, rfl, rfl, ?_, ?_⟩
    · rw [cut_to, tx_len, hz, List.length_take]; exact sz1000 (by omega)
    · rw [cut_to, cut_from, h35, tx_app, tx_len, tx_len, List.length_append, List.length_take, List.length_drop]; exact sz1000 (by simp; omega)
    · rw [cut_to, cut_from, h35, tx_app, tx_app]
      have := q (l.take d.toNat) (l.drop d.toNat) H3 ⟨okL_take _ l2, okL_drop _ l2, by rw [List.length_take, List.length_drop]; omega⟩ ((((Ext.new np).trans e1).trans e2).trans e3) R3
      simpa using this
theorem ok__law_far (T : Tx.TX K mg) : C8.Cal P w K mg base 5 "_law_far" (spFar K) [] := by
  refine calD (k := 4) T.d__law_far T.g__law_far Tx.sc__law_far (fun _ _ _ _ _ _ us hl => match us, hl with | [_], _ => rfl) ?len ?run
  case len => rintro vs H Q E ⟨far, rfl, _⟩; rfl
  case run =>
    rintro cdv A' outer s H vs Q E hr ⟨far, rfl, ok, q⟩
    refine ⟨_, by exact (pss_one (ps_ret (pe_ifExp (pt_cmpR op_in_sign pe_str (pv 0) (by rfl)) (C8.pe_mk (ok_Pattern_init T) hr (by decide) rfl (pa_cons (pv 0) pa_nil)) (pv 0)))), ?_⟩
    refine ⟨_, rfl, 35, _, (by rw [hash_eq]), rfl, _, rfl, ?_⟩
    rw [hash_mem far ok]
    cases far with
    | word l => exact itF rfl ⟨_, rfl, q _ H (Ext.refl H) rfl⟩
    | pat A B =>
      refine itT rfl ⟨_, rfl, fun x dx nx nd ne => ⟨x, dx, A, B, rfl, upd_same, ok, fun H' e' PA => ⟨rfl, ?_⟩⟩⟩
      exact q _ H' (Ext.made nx nd e') ⟨x, rfl, PA⟩
theorem ok__law_real (T : Tx.TX K mg) : C8.Cal P w K mg base 6 "_law_real" (spReal K) [] := by
  refine calD (k := 5) T.d__law_real T.g__law_real Tx.sc__law_real (fun _ _ _ _ _ _ us hl => match us, hl with | [_], _ => rfl) ?len ?run
  case len => rintro vs H Q E ⟨p, l, told, far, rfl, _⟩; rfl
  case run =>
    rintro cdv A' outer s H vs Q E hr ⟨p, l, told, far, rfl, PA, ok, q⟩
    refine ⟨_, by exact (pss_one (ps_ret (C8.pe_mk (ok_Row_init T) hr (by decide) rfl (pa_cons (pe_callTy call_list_of (by rfl) T.b_list (by decide +kernel) (pa_cons (pe_ix ix_tup (pv 0) pe_int (fun _ _ => rfl)) pa_nil)) (pa_cons (C8.pe_c (ok__law_far T) hr (by decide) rfl (pa_cons (pe_ix ix_tup (pv 0) pe_int (fun _ _ => rfl)) pa_nil)) pa_nil))))), ?_⟩
    refine ⟨_, rfl, p, _, 0, _, rfl, rfl, SqT.of PA.tp, rfl, l, _, rfl, .inl (SqL.of PA.ls), fun u nu => ?_⟩
    have e1 : Ext [] H (upd H u (.lst (tls told))) := Ext.new nu
    have PA1 := PA.ext0 e1
    refine ⟨_, rfl, p, _, 1, _, rfl, rfl, SqT.of PA1.tp, rfl, far, rfl, ok.f, fun v H2 e2 hf => fun x dx nx nd ne => ?_⟩
    have hu : H2 u = some (.lst (tls told)) := e2 u _ (by simp) upd_same
    have e3 : Ext [] H2 (upd (upd H2 dx (.own x)) x (.ins (cRow K) dx [])) := fun b o _ z => by
      rw [upd_ne (ne_of_none z nx), upd_ne (ne_of_none z nd)]; exact z
    refine ⟨x, dx, u, v, told, far, rfl, upd_same, .inl ⟨SqL.of (e3 u _ (by simp) hu), .base (.lst (e3 u _ (by simp) hu))⟩, hf.ext0 e3, ok, fun t H4 nt e4 R4 => ⟨rfl, ?_⟩⟩
    have e12 := e1.trans e2
    exact q x t H4 (e12.trans (Ext.made nx nd e4)) (Ext.free e12 nx) (Ext.free (e12.trans e3) nt) R4
theorem ok__law_at (T : Tx.TX K mg) : C8.Cal P w K mg base 1 "_law_at" (spAt) [] := by
  refine calD (k := 0) T.d__law_at T.g__law_at Tx.sc__law_at (fun _ _ _ _ _ _ us hl => match us, hl with | [_, _], _ => rfl) ?len ?run
  case len => rintro vs H Q E ⟨p, l, told, far, d, rfl, _⟩; rfl
  case run =>
    rintro cdv A' outer s H vs Q E hr ⟨p, l, told, far, d, rfl, PA, ok, hd, q⟩
    refine ⟨_, by exact (pss_one (ps_ret (pe_ifExp (pt_cmpR op_lt (pv 1) (pe_callB call_len_seq (by rfl) T.b_len (by decide +kernel) (pa_cons (pe_ix ix_tup (pv 0) pe_int (fun _ _ => rfl)) pa_nil)) (nomark _)) (pe_ix ix_list (pe_ix ix_tup (pv 0) pe_int (fun _ _ => rfl)) (pv 1) (fun _ _ => rfl)) (pe_join (pe_callTy call_str_int (by rfl) T.b_str (by decide +kernel) (pa_cons (pv 1) pa_nil)) (pe_split (pe_ix ix_tup (pv 0) pe_int (fun _ _ => rfl)) pe_str))))), ?_⟩
    have el : (tls told).length = told.length := List.length_map _
    have l1 : (d : Int).natAbs.log2 < 1920 := by
      rw [Int.natAbs_natCast]
      by_cases h0 : d = 0
      · subst h0; decide
      · exact Nat.lt_trans ((Nat.log2_lt h0).mpr hd) (by decide)
    have dl : (dig d).length ≤ 1900 := dig_le (by decide) hd
    refine ⟨_, rfl, _, rfl, p, _, 0, _, rfl, rfl, SqT.of PA.tp, rfl, l, _, rfl, .inl (SqL.of PA.ls), _, _, rfl, rfl, _, rfl, it2 (fun c => ?_) (fun c => ?_)⟩
    · have c' := of_decide_eq_true c
      have hl : d < told.length := by omega
      have e : told[d]? = some told[d] := List.getElem?_eq_getElem hl
      refine ⟨_, rfl, p, _, 0, _, rfl, rfl, SqT.of PA.tp, rfl, _, rfl, l, _, _, _, rfl, rfl, SqL.of PA.ls, atI_nat (v := V.str (tx told[d])) (by unfold tls; rw [List.getElem?_map, e]; rfl), ?_⟩
      have := q H (Ext.refl H)
      unfold wordAt at this
      rw [e] at this
      exact this
    · have c' := of_decide_eq_false c
      have e : told[d]? = none := List.getElem?_eq_none (by omega)
      have q' : ∀ H', Ext [] H H' → Q (.str (tx (farWord far d))) H' := fun H' x => by
        have := q H' x
        unfold wordAt at this
        rw [e] at this
        exact this
      have fl : (farT far).length ≤ 20 := by
        cases far with
        | word l => exact ok.f.sz
        | pat A B => have := ok.f.sz; show (A ++ 35 :: B).length ≤ 20; rw [List.length_append, List.length_cons]; omega
      refine ⟨_, rfl, d, rfl, l1, ⟨_, rfl⟩, _, rfl, p, _, 1, _, rfl, rfl, SqT.of PA.tp, rfl, ⟨_, rfl⟩, _, _, rfl, rfl, by decide +kernel, by rw [tx_len]; exact sz1000 (by omega), fun u nu => ?_⟩
      rw [dig_eq]
      cases far with
      | word z =>
        have es := split_none (okL_ne ok.f.ok)
        refine ⟨_, u, [tx z], rfl, rfl, .inl (SqL.of (by rw [upd_same]; show some (HO.lst ((Txt.split (tx z) _).map V.str)) = _; rw [es])), ?_, ?_⟩
        · simp [tx_len]; have : z.length ≤ 20 := fl; omega
        · rw [txt_join]; exact q' _ (Ext.new nu)
      | pat A B =>
        have es := split_two (okL_ne ok.f.a) (okL_ne ok.f.b)
        refine ⟨_, u, [tx A, tx B], rfl, rfl, .inl (SqL.of (by rw [upd_same]; show some (HO.lst ((Txt.split (tx (A ++ 35 :: B)) _).map V.str)) = _; rw [es])), ?_, ?_⟩
        · simp [tx_len]; have := ok.f.sz; omega
        · have ej : Txt.join (tx (dig d)) [tx A, tx B] = tx (A ++ dig d ++ B) := by
            rw [txt_join]
            show tx A ++ tx (dig d) ++ tx B = _
            rw [tx_app, tx_app]
          rw [ej]
          exact q' _ (Ext.new nu)
end
end K15
set_option maxHeartbeats 4000000
namespace K15
open PySem PySem.Spec PyProof.Rows L2 Eb
/-! ## rows compared -/
def farEq : Far → Far → Bool
  | .word l, .word m => decide (l = m)
  | .pat A B, .pat C D => decide (A ++ 35 :: B = C ++ 35 :: D)
  | _, _ => false
def rowEq (told : List (List Nat)) (far : Far) (told' : List (List Nat)) (far' : Far) : Bool := decide (told = told') && farEq far far'
def nar (told : List (List Nat)) (far : Far) (told' : List (List Nat)) (far' : Far) : Bool :=
  !(isPat far && !isPat far') && (List.range (max told.length told'.length + 1)).all fun d => decide ((wordAt told far d).length ≤ (wordAt told' far' d).length)
def spPatEq (K : PySem.W.Frag) : Sp := fun vs H Q _ => ∃ (a : Addr) (A B : List Nat), PatAt K H a A B ∧ ((∃ b C D, vs = [.ref a, .ref b] ∧ PatAt K H b C D ∧ Q (.bl (decide (A ++ 35 :: B = C ++ 35 :: D))) H) ∨ (∃ z : Str, vs = [.ref a, .str z] ∧ Q (.bl false) H))
def spTwo (K : PySem.W.Frag) (f : List (List Nat) → Far → List (List Nat) → Far → Bool) : Sp := fun vs H Q _ => ∃ (a t b u : Addr) (told told' : List (List Nat)) (far far' : Far), vs = [.ref a, .ref b] ∧ RowAt K H a t told far ∧ RowAt K H b u told' far' ∧ RowOk told far ∧ RowOk told' far' ∧
  ∀ H', Ext [] H H' → Q (.bl (f told far told' far')) H'
theorem decV_tx (a b : List Nat) : decide (V.str (tx a) = V.str (tx b)) = decide (a = b) := by
  by_cases h : a = b
  · rw [h]; simp
  · rw [decide_eq_false h, decide_eq_false]
    intro z
    cases z
    exact h rfl
theorem dp_tls {K : PySem.W.Frag} {H : Hp} : ∀ told : List (List Nat), DpAll K H (tls told) (told.map fun l => PyData.str (tx l))
  | [] => .nil
  | l :: r => .cons (.str _) (dp_tls r)
theorem eqv_tls : ∀ a b : List (List Nat), PyData.eqvAll (a.map fun l => PyData.str (tx l)) (b.map fun l => PyData.str (tx l)) = decide (a = b)
  | [], [] => rfl
  | [], _ :: _ => by simp [PyData.eqvAll]
  | _ :: _, [] => by simp [PyData.eqvAll]
  | x :: xs, y :: ys => by
    rw [List.map_cons, List.map_cons, PyData.eqvAll, eqv_tls xs ys]
    have : PyData.eqv (.str (tx x)) (.str (tx y)) = decide (x = y) := by
      simp only [PyData.eqv]
      by_cases h : x = y
      · rw [h]; simp
      · rw [decide_eq_false h]
        exact beq_eq_false_iff_ne.mpr fun z => h (tx_inj z)
    rw [this]
    by_cases h1 : x = y <;> by_cases h2 : xs = ys <;> simp [h1, h2]
theorem strOk_tx {l : List Nat} (h : ∀ c ∈ l, c < 128) : PyData.strOk (tx l) = true := by
  unfold PyData.strOk
  rw [Array.all_eq_true']
  intro c hc
  have : c ∈ l := by simpa [tx] using hc
  exact decide_eq_true (Nat.lt_of_lt_of_le (h c this) (by decide))
theorem ok_lt {l : List Nat} (h : okL l) : ∀ c ∈ l, c < 128 := fun c hc => by
  have := List.all_eq_true.mp h c hc
  unfold okC at this
  have := of_decide_eq_true this
  omega
theorem lay_tls : ∀ a : List (List Nat), (∀ l ∈ a, WOk l) → PyData.canLayAll0 (a.map fun l => PyData.str (tx l)) = true
  | [], _ => by simp [PyData.canLayAll0]
  | x :: xs, h => by rw [List.map_cons, PyData.canLayAll0, lay_tls xs fun l hl => h l (List.mem_cons_of_mem _ hl), PyData.canLay0, strOk_tx (ok_lt (h x List.mem_cons_self).ok)]; rfl
theorem dep_tls : ∀ a : List (List Nat), PyData.depthAll (a.map fun l => PyData.str (tx l)) ≤ 1
  | [] => by simp [PyData.depthAll]
  | x :: xs => by
    have := dep_tls xs
    rw [List.map_cons, PyData.depthAll]
    simp [PyData.depth]
    omega
theorem shaped_tls {a : List (List Nat)} (h : ∀ l ∈ a, WOk l) : SeqAt.shaped (.list (a.map fun l => PyData.str (tx l))) = true := by
  unfold SeqAt.shaped
  rw [PyData.canLay0, lay_tls a h, PyData.depth]
  have := dep_tls a
  simp
  omega
theorem rowF_nb (t : Addr) (v : V) : (rowF t v).lookup ("is_narrow_beside" : Str) = none := by kernel_rfl
section
variable {P : Program} {w : World} {K : PySem.W.Frag} {mg : Str → Option Value} {base : Heap}
theorem ok_Pattern_eq (T : Tx.TX K mg) : C8.Met P w K mg base 1 (He.ga K "Pattern") "__eq__" (spPatEq K) [] := by
  refine metD (k := 0) T.d_Pattern_eq T.c_Pattern T.m_Pattern_eq Tx.sc_Pattern_eq (fun _ _ _ _ _ _ us hl => match us, hl with | [_, _], _ => rfl) ?len ?run
  case len => rintro vs H Q E ⟨a, A, B, _, ⟨b, C, D, rfl, _⟩ | ⟨z, rfl, _⟩⟩ <;> rfl
  case run =>
    rintro cdv A' outer s H vs Q E hr ⟨a, A, B, ⟨dx, ha⟩, h⟩
    refine ⟨_, by exact (pss_one (ps_ret (pe_and (pe_callB call_isi (by rfl) T.b_isinstance (by decide +kernel) (pa_cons (pv 1) (pa_cons (pe_gr T.g_Pattern) pa_nil))) (pe_one (pe_cmpR op_eq (pe_fld (pv 0) rfl) (pe_fld (pv 1) rfl) (nomark _)))))), ?_⟩
    rcases h with ⟨b, C, D, rfl, ⟨dy, hb⟩, q⟩ | ⟨z, rfl, q⟩
    · refine ⟨_, rfl, _, _, _, _, true, rfl, .own _, insB_ok T.c_Pattern T.ty_Pattern hb, T.is_Pattern_Pattern, _, rfl, itT rfl ?_⟩
      refine ⟨_, rfl, a, _, dx, _, _, rfl, ha, T.c_Pattern, T.na_Pattern_own_text, patF_t A B, _, rfl, b, _, dy, _, _, rfl, hb, T.c_Pattern, T.na_Pattern_own_text, patF_t C D, ?_⟩
      dsimp only
      refine ⟨rfl, ?_⟩
      rw [decV_tx]
      exact q
    · exact ⟨_, rfl, _, _, _, _, false, rfl, .own _, .base (.str _), T.is_str_Pattern, _, rfl, itF rfl q⟩
theorem ok_Row_eq (T : Tx.TX K mg) : C8.Met P w K mg base 2 (He.ga K "Row") "__eq__" (spTwo K rowEq) [] := by
  refine metD (k := 1) T.d_Row_eq T.c_Row T.m_Row_eq Tx.sc_Row_eq (fun _ _ _ _ _ _ us hl => match us, hl with | [_, _], _ => rfl) ?len ?run
  case len => rintro vs H Q E ⟨a, t, b, u, told, told', far, far', rfl, _⟩; rfl
  case run =>
    rintro cdv A' outer s H vs Q E hr ⟨a, t, b, u, told, told', far, far', rfl, RA, RB, oka, okb, q⟩
    obtain ⟨⟨dx, va, ha, hfa⟩, hta⟩ := id RA
    obtain ⟨⟨dy, vb, hb, hfb⟩, htb⟩ := id RB
    refine ⟨_, by exact (pss_one (ps_ret (pe_and (pe_callB call_isi (by rfl) T.b_isinstance (by decide +kernel) (pa_cons (pv 1) (pa_cons (pe_gr T.g_Row) pa_nil))) (pe_and (pe_cmpR (op_eqD hr.units) (pe_fld (pv 0) rfl) (pe_fld (pv 1) rfl) (nomark _)) (pe_one (pe_cmpR (op_or' op_eq (op_or' (op_cmpO (ok_Pattern_eq T) rfl (fun _ _ => rfl) hr (by decide)) (op_or' (op_cmpOS (ok_Pattern_eq T) rfl (fun _ _ => rfl) hr (by decide)) (op_eqSO (ok_Pattern_eq T) T.ss_Pattern hr (by decide))))) (pe_fld (pv 0) rfl) (pe_fld (pv 1) rfl) (nomark _))))))), ?_⟩
    have q' := q H (Ext.refl H)
    refine ⟨_, rfl, _, _, _, _, true, rfl, .own _, insB_ok T.c_Row T.ty_Row hb, T.is_Row_Row, _, rfl, itT rfl ?_⟩
    refine ⟨_, rfl, a, _, dx, _, _, rfl, ha, T.c_Row, T.na_Row_own_told, rowF_t t va, _, rfl, b, _, dy, _, _, rfl, hb, T.c_Row, T.na_Row_own_told, rowF_t u vb, ?_⟩
    refine ⟨_, _, .lst (SqL.of hta) (dp_tls told), .lst (SqL.of htb) (dp_tls told'), shaped_tls oka.w, shaped_tls okb.w, _, rfl, ?_⟩
    have e1 : PyData.eqv (.list (told.map fun l => PyData.str (tx l))) (.list (told'.map fun l => PyData.str (tx l))) = decide (told = told') := by
      rw [PyData.eqv]; exact eqv_tls _ _
    rw [e1]
    unfold rowEq at q'
    refine it2 (fun c => ?_) (fun c => ?_)
    · rw [c, Bool.true_and] at q'
      refine ⟨_, rfl, a, _, dx, _, _, rfl, ha, T.c_Row, T.na_Row_own_far, rowF_f t va, _, rfl, b, _, dy, _, _, rfl, hb, T.c_Row, T.na_Row_own_far, rowF_f u vb, ?_⟩
      dsimp only
      cases far with
      | word l =>
        cases hfa
        cases far' with
        | word m =>
          cases hfb
          refine .inl ⟨rfl, ?_⟩
          rw [decV_tx]
          exact q'
        | pat C D =>
          obtain ⟨p, rfl, dp, hp⟩ := hfb
          exact .inr (.inr (.inr ⟨p, dp, _, _, rfl, rfl, hp, p, C, D, ⟨dp, hp⟩, .inr ⟨_, rfl, ⟨_, rfl⟩, q'⟩⟩))
      | pat A B =>
        obtain ⟨p, rfl, dp, hp⟩ := hfa
        cases far' with
        | word m =>
          cases hfb
          exact .inr (.inr (.inl ⟨p, dp, _, _, rfl, rfl, hp, p, A, B, ⟨dp, hp⟩, .inr ⟨_, rfl, ⟨_, rfl⟩, q'⟩⟩))
        | pat C D =>
          obtain ⟨p', rfl, dp', hp'⟩ := hfb
          exact .inr (.inl ⟨p, dp, _, p', dp', _, rfl, rfl, hp, hp', p, A, B, ⟨dp, hp⟩, .inl ⟨p', C, D, rfl, ⟨dp', hp'⟩, ⟨_, rfl⟩, q'⟩⟩)
    · rw [c, Bool.false_and] at q'
      exact q'
theorem ok_Row_is_narrow_beside (T : Tx.TX K mg) : C8.Met P w K mg base 6 (He.ga K "Row") "is_narrow_beside" (spTwo K nar) [] := by
  refine metD (k := 5) T.d_Row_is_narrow_beside T.c_Row T.m_Row_is_narrow_beside Tx.sc_Row_is_narrow_beside (fun _ _ _ _ _ _ us hl => match us, hl with | [_, _], _ => rfl) ?len ?run
  case len => rintro vs H Q E ⟨a, t, b, u, told, told', far, far', rfl, _⟩; rfl
  case run =>
    rintro cdv A' outer s H vs Q E hr ⟨a, t, b, u, told, told', far, far', rfl, RA, RB, oka, okb, q⟩
    obtain ⟨⟨dx, va, ha, hfa⟩, hta⟩ := id RA
    obtain ⟨⟨dy, vb, hb, hfb⟩, htb⟩ := id RB
    refine ⟨_, by exact (pss_cons (ps_if (pt_j (PW.pt (pw_and (pt_val (C8.pe_mt0 (ok_Row_has_pattern T) hr (by decide) (pv 0))) (pw_and1 (pt_not (pt_val (C8.pe_mt0 (ok_Row_has_pattern T) hr (by decide) (pv 1)))))))) (pss_one (ps_ret pe_bl)) pss_nil) (pss_cons (ps_set (i := 2) Tx.sc_Row_is_narrow_beside.nd rfl (Or.inl rfl) (pe_callB (call_max2 rfl) (by rfl) T.b_max (by decide +kernel) (pa_cons (pe_callB call_len_seq (by rfl) T.b_len (by decide +kernel) (pa_cons (pe_fld (pv 0) rfl) pa_nil)) (pa_cons (pe_callB call_len_seq (by rfl) T.b_len (by decide +kernel) (pa_cons (pe_fld (pv 1) rfl) pa_nil)) pa_nil)))) (pss_one (ps_ret (pe_callB (cr_all rfl) (by rfl) T.b_all (by decide +kernel) (pa_cons (pe_lc (own := [("distance", 3)]) (g := gName 3) (tt := tYes) rfl Tx.sc_Row_is_narrow_beside.nd (pi_range1 (by rfl) T.b_range (pa_cons (pe_op op_add (pv 2) pe_int) pa_nil)) (blkOk_by (own := [("distance", 3)]) (N := Tx.N_Row_is_narrow_beside) (sc := defScope Tx.s_Row_is_narrow_beside) (by decide +kernel)) (fun _ _ _ _ _ => (pg_name (i := 3) Tx.sc_Row_is_narrow_beside.nd rfl (Or.inl rfl))) (fun _ _ _ _ _ => pts_nil) (fun _ _ _ _ _ => (pe_cmpR op_le (C8.pe_mt (ok_Row_width T) hr (by decide) (pv 0) (pa_cons (pv 3) pa_nil)) (C8.pe_mt (ok_Row_width T) hr (by decide) (pv 1) (pa_cons (pv 3) pa_nil)) (nomark _)))) pa_nil)))))), ?_⟩
    have la : (tls told).length = told.length := List.length_map _
    have lb : (tls told').length = told'.length := List.length_map _
    have na := oka.n
    have nb := okb.n
    have sm : ∀ d : Nat, d < 100 → d < 2 ^ 1900 := fun d h => Nat.lt_of_lt_of_le (show d < 2 ^ 10 by omega) (Nat.pow_le_pow_right (by decide) (by decide))
    refine ⟨fun b' H' => b' = (isPat far && !isPat far') ∧ H' = H, ?_, ?_⟩
    · refine ⟨_, rfl, a, dx, _, rfl, ha, rowF_n2 t va, a, t, told, far, rfl, RA, _, rfl, it2 (fun c => ?_) (fun c => ?_)⟩
      · refine ⟨_, rfl, b, dy, _, rfl, hb, rowF_n2 u vb, b, u, told', far', rfl, RB, _, rfl, ?_⟩
        rw [c]
        exact ⟨rfl, rfl⟩
      · rw [c]
        exact ⟨rfl, rfl⟩
    rintro b' H' ⟨rfl, rfl⟩
    unfold nar at q
    refine it2 (fun c => ?_) (fun c => ?_)
    · rw [c] at q
      exact q H' (Ext.refl H')
    rw [c] at q
    refine ⟨_, rfl, a, _, dx, _, _, rfl, ha, T.c_Row, T.na_Row_own_told, rowF_t t va, t, _, rfl, .inl (SqL.of hta), _, rfl, b, _, dy, _, _, rfl, hb, T.c_Row, T.na_Row_own_told, rowF_t u vb, u, _, rfl, .inl (SqL.of htb), _, _, rfl, ?_⟩
    have em : (if ((tls told').length : Int) > ((tls told).length : Int) then ((tls told').length : Int) else ((tls told).length : Int)) = ((max told.length told'.length : Nat) : Int) := by
      rw [la, lb]
      split <;> omega
    rw [em]
    refine ⟨_, rfl, _, _, rfl, rfl, _, rfl, ?_, ?_, fun D hD => ?_⟩
    · omega
    · omega
    refine lc_it walk_range (fun i H'' => H'' D = some (.lst (((List.range i).map fun d => decide ((wordAt told far d).length ≤ (wordAt told' far' d).length)).map V.bl)) ∧ Ext [] H' H'') ⟨upd_same, Ext.new hD⟩ (fun _ _ _ _ => trivial) ?_ ?_
    · rintro i x H1 H2 hi ⟨g1, g2⟩ ⟨rfl, rfl⟩
      have R1 := RA.ext0 g2
      obtain ⟨⟨dx1, v1, ha1, hf1⟩, ht1⟩ := id R1
      have hi' : i < 100 := by omega
      refine ⟨rfl, _, rfl, a, dx1, _, rfl, ha1, rowF_n3 t v1, _, rfl, a, t, told, far, i, (by show [V.ref a, V.int (0 + (i : Int))] = _; rw [Int.zero_add]), R1, oka, sm i hi', fun H3 e3 => ?_⟩
      have R2 := RB.ext0 (g2.trans e3)
      obtain ⟨⟨dx2, v2, ha2, hf2⟩, ht2⟩ := id R2
      refine ⟨_, rfl, b, dx2, _, rfl, ha2, rowF_n3 u v2, _, rfl, b, u, told', far', i, (by show [V.ref b, V.int (0 + (i : Int))] = _; rw [Int.zero_add]), R2, okb, sm i hi', fun H4 e4 => ?_⟩
      refine ⟨_, _, rfl, rfl, _, (e3.trans e4) D _ (by simp) g1, ?_, ?_, Ext.mut ((g2.trans e3).trans e4) hD⟩
      · rw [List.length_map, List.length_map, List.length_range]
        exact Nat.lt_of_lt_of_le (show i < 1000 by omega) (by decide)
      · rw [upd_same, List.range_succ, List.map_append, List.map_append]
        have : decide (((wordAt told far i).length : Int) ≤ ((wordAt told' far' i).length : Int)) = decide ((wordAt told far i).length ≤ (wordAt told' far' i).length) := by
          rw [decide_eq_decide]; omega
        show some (HO.lst (_ ++ [V.bl (decide (((wordAt told far i).length : Int) ≤ ((wordAt told' far' i).length : Int)))])) = _
        rw [this]; rfl
    · rintro H1 ⟨g1, g2⟩
      refine ⟨D, _, rfl, SqL.of g1, ?_⟩
      have e : ((max told.length told'.length : Nat) : Int) + 1 - 0 = ((max told.length told'.length + 1 : Nat) : Int) := by omega
      have q1 := q H1 g2
      rw [show ((((max told.length told'.length : Nat) : Int) + 1)).toNat = max told.length told'.length + 1 by omega, List.all_map]
      exact q1
theorem ok_Row_le (T : Tx.TX K mg) : C8.Met P w K mg base 7 (He.ga K "Row") "__le__" (spTwo K nar) [] := by
  refine metD (k := 6) T.d_Row_le T.c_Row T.m_Row_le Tx.sc_Row_le (fun _ _ _ _ _ _ us hl => match us, hl with | [_, _], _ => rfl) ?len ?run
  case len => rintro vs H Q E ⟨a, t, b, u, told, told', far, far', rfl, _⟩; rfl
  case run =>
    rintro cdv A' outer s H vs Q E hr ⟨a, t, b, u, told, told', far, far', rfl, RA, RB, oka, okb, q⟩
    obtain ⟨⟨dx, va, ha, hfa⟩, hta⟩ := id RA
    obtain ⟨⟨dy, vb, hb, hfb⟩, htb⟩ := id RB
    refine ⟨_, by exact (pss_cons (ps_if (pt_not (pt_val (pe_callB call_isi (by rfl) T.b_isinstance (by decide +kernel) (pa_cons (pv 1) (pa_cons (pe_gr T.g_Row) pa_nil))))) (pss_one ps_never) pss_nil) (pss_one (ps_ret (C8.pe_mt (ok_Row_is_narrow_beside T) hr (by decide) (pv 0) (pa_cons (pv 1) pa_nil))))), ?_⟩
    refine ⟨_, rfl, _, _, _, _, true, rfl, .own _, insB_ok T.c_Row T.ty_Row hb, T.is_Row_Row, _, rfl, itF rfl ?_⟩
    exact ⟨_, rfl, a, dx, _, rfl, ha, rowF_nb t va, _, rfl, a, t, b, u, told, told', far, far', rfl, RA, RB, oka, okb, q⟩
theorem ok_Row_lt (T : Tx.TX K mg) : C8.Met P w K mg base 7 (He.ga K "Row") "__lt__" (spTwo K fun x f y g => nar x f y g && !nar y g x f) [] := by
  refine metD (k := 6) T.d_Row_lt T.c_Row T.m_Row_lt Tx.sc_Row_lt (fun _ _ _ _ _ _ us hl => match us, hl with | [_, _], _ => rfl) ?len ?run
  case len => rintro vs H Q E ⟨a, t, b, u, told, told', far, far', rfl, _⟩; rfl
  case run =>
    rintro cdv A' outer s H vs Q E hr ⟨a, t, b, u, told, told', far, far', rfl, RA, RB, oka, okb, q⟩
    obtain ⟨⟨dx, va, ha, hfa⟩, hta⟩ := id RA
    obtain ⟨⟨dy, vb, hb, hfb⟩, htb⟩ := id RB
    refine ⟨_, by exact (pss_cons (ps_if (pt_not (pt_val (pe_callB call_isi (by rfl) T.b_isinstance (by decide +kernel) (pa_cons (pv 1) (pa_cons (pe_gr T.g_Row) pa_nil))))) (pss_one ps_never) pss_nil) (pss_one (ps_ret (pe_and (C8.pe_mt (ok_Row_is_narrow_beside T) hr (by decide) (pv 0) (pa_cons (pv 1) pa_nil)) (pe_one (pe_not (C8.pe_mt (ok_Row_is_narrow_beside T) hr (by decide) (pv 1) (pa_cons (pv 0) pa_nil)))))))), ?_⟩
    refine ⟨_, rfl, _, _, _, _, true, rfl, .own _, insB_ok T.c_Row T.ty_Row hb, T.is_Row_Row, _, rfl, itF rfl ?_⟩
    refine ⟨_, rfl, a, dx, _, rfl, ha, rowF_nb t va, _, rfl, a, t, b, u, told, told', far, far', rfl, RA, RB, oka, okb, fun H1 e1 => ⟨_, rfl, ?_⟩⟩
    have q1 := fun H2 (e2 : Ext [] H1 H2) => q H2 (e1.trans e2)
    dsimp only at q1
    obtain ⟨⟨dy1, vb1, hb1, hfb1⟩, htb1⟩ := id (RB.ext0 e1)
    refine it2 (fun c => ?_) (fun c => ?_)
    · rw [c, Bool.true_and] at q1
      exact ⟨_, rfl, b, dy1, _, rfl, hb1, rowF_nb u vb1, _, rfl, b, u, a, t, told', told, far', far, rfl, RB.ext0 e1, RA.ext0 e1, okb, oka, fun H2 e2 => ⟨_, rfl, q1 H2 e2⟩⟩
    · rw [c, Bool.false_and] at q1
      exact q1 H1 (Ext.refl H1)
end
end K15
set_option maxHeartbeats 4000000
namespace K15
open PySem PySem.Spec PyProof.Rows L2 Eb
theorem cutV_to (xs : List V) (k : Nat) : cutV xs none (some (k : Int)) = xs.take k := by
  unfold cutV
  rw [HT.sIx_none, HT.sIx_nat, List.drop_zero, Nat.sub_zero]
  by_cases h : k ≤ xs.length
  · rw [Nat.min_eq_left h]
  · rw [Nat.min_eq_right (by omega), List.take_of_length_le (Nat.le_refl _), List.take_of_length_le (by omega)]
theorem cutV_from (xs : List V) (k : Nat) : cutV xs (some (k : Int)) none = xs.drop k := by
  unfold cutV
  rw [HT.sIx_none, HT.sIx_nat]
  by_cases h : k ≤ xs.length
  · rw [Nat.min_eq_left h, List.take_of_length_le (by rw [List.length_drop]; exact Nat.le_refl _)]
  · rw [Nat.min_eq_right (by omega), List.drop_eq_nil_of_le (Nat.le_refl _), List.drop_eq_nil_of_le (by omega), List.take_nil]
theorem set_cut {α : Type} (xs : List α) (d : Nat) (x : α) (h : d < xs.length) : xs.take d ++ [x] ++ xs.drop (d + 1) = xs.set d x := by
  rw [List.set_eq_take_append_cons_drop, if_pos h, List.append_assoc]; rfl
theorem RngAt.ext {H H' : Hp} {r : Addr} {R : List Addr} (h : RngAt H r) (e : Ext R H H') (n : r ∉ R) : RngAt H' r := by
  obtain ⟨a, b, h1, h2⟩ := h
  exact ⟨a, b, e r _ n h1, h2⟩
theorem pow1900 {n : Nat} (h : n < 1000) : n < 2 ^ 1900 := Nat.lt_of_lt_of_le (show n < 2 ^ 10 by omega) (Nat.pow_le_pow_right (by decide) (by decide))
theorem tls_app (a b : List (List Nat)) : tls (a ++ b) = tls a ++ tls b := List.map_append
/-- the distances at which the law looks -/
def pw (i : Nat) : Nat := 10 ^ (i + 2)
def dsts : List Nat := List.range 13 ++ (List.range 24).map pw
def wdl (told : List (List Nat)) (far : Far) (l : List Nat) : List V := l.map fun d => V.int (wordAt told far d).length
def spWdl : Sp := fun vs H Q _ => ∃ (p l : Addr) (told : List (List Nat)) (far : Far), vs = [.ref p] ∧ PlanAt H p l told far ∧ RowOk told far ∧ ∀ a H', Ext [] H H' → H a = none → H' a = some (.lst (wdl told far dsts)) → Q (.ref a) H'
def below (told : List (List Nat)) (far : Far) (told' : List (List Nat)) (far' : Far) : Bool := dsts.all fun d => decide ((wordAt told far d).length ≤ (wordAt told' far' d).length)
def spBelow : Sp := fun vs H Q _ => ∃ (p l p' l' : Addr) (told told' : List (List Nat)) (far far' : Far), vs = [.ref p, .ref p'] ∧ PlanAt H p l told far ∧ PlanAt H p' l' told' far' ∧ RowOk told far ∧ RowOk told' far' ∧ ∀ H', Ext [] H H' → Q (.bl (below told far told' far')) H'
def spWider : Sp := fun vs H Q _ => ∃ (r p l : Addr) (told : List (List Nat)) (far : Far), vs = [.ref r, .ref p] ∧ RngAt H r ∧ PlanAt H p l told far ∧ RowOk told far ∧ ∀ (p' l' : Addr) (told' : List (List Nat)) (far' : Far) (H' : Hp), RowOk told' far' → Ext [r] H H' → RngAt H' r → PlanAt H' p' l' told' far' → Q (.ref p') H'
theorem pw_lt {i : Nat} (h : i < 24) : pw i < 2 ^ 1900 := Nat.lt_of_le_of_lt (Nat.pow_le_pow_right (by decide) (show i + 2 ≤ 26 by omega)) (by decide +kernel)
theorem dsts_lt : ∀ d ∈ dsts, d < 2 ^ 1900 := fun d hd => by
  rcases List.mem_append.mp hd with h | h
  · have := List.mem_range.mp h
    exact pow1900 (by omega)
  · obtain ⟨i, hi, rfl⟩ := List.mem_map.mp h
    exact pw_lt (List.mem_range.mp hi)
theorem dsts_len : dsts.length = 37 := by decide +kernel
theorem rg13 : rgV 0 13 = (List.range 13).map fun d : Nat => V.int (d : Int) := by
  unfold rgV
  refine List.map_congr_left fun d _ => ?_
  rw [Int.zero_add]
section
variable {P : Program} {w : World} {K : PySem.W.Frag} {mg : Str → Option Value} {base : Heap}
theorem ok__law_plan (T : Tx.TX K mg) : C8.Cal P w K mg base 5 "_law_plan" (spPlan) [] := by
  refine calD (k := 4) T.d__law_plan T.g__law_plan Tx.sc__law_plan (fun _ _ _ _ _ _ us hl => match us, hl with | [_], _ => rfl) ?len ?run
  case len => rintro vs H Q E ⟨r, rfl, _⟩; rfl
  case run =>
    rintro cdv A' outer s H vs Q E hr ⟨r, rfl, hR, q⟩
    refine ⟨_, by exact (pss_cons (ps_setLc (i := 1) (own := [("_law_turn", 2)]) (g := gName 2) (tt := tYes) rfl Tx.sc__law_plan.nd rfl rfl (sw_true rfl rfl rfl (by decide +kernel)) (pi_range1 (by rfl) T.b_range (pa_cons (C8.pe_c (ok__law_choice T) hr (by decide) rfl (pa_cons (pv 0) (pa_cons (pe_lst (pa_cons pe_int (pa_cons pe_int (pa_cons pe_int (pa_cons pe_int (pa_cons pe_int (pa_cons pe_int (pa_cons pe_int pa_nil)))))))) pa_nil))) pa_nil)) (blkOk_by (own := [("_law_turn", 2)]) (N := Tx.N__law_plan) (sc := defScope Tx.s__law_plan) (by decide +kernel)) (fun _ _ _ _ _ => (pg_name (i := 2) Tx.sc__law_plan.nd rfl (Or.inl rfl))) (fun _ _ _ _ _ => pts_nil) (fun _ _ _ _ _ => (C8.pe_c (ok__law_any_word T) hr (by decide) rfl (pa_cons (pv 0) pa_nil)))) (pss_one (ps_ret (pe_tup (pa_cons (pv 1) (pa_cons (pe_j (pe_ifExp (pt_cmpR op_eq (C8.pe_c (ok__law_draw T) hr (by decide) rfl (pa_cons (pv 0) (pa_cons pe_int pa_nil))) pe_int (nomark _)) (C8.pe_c (ok__law_pattern_text T) hr (by decide) rfl (pa_cons (pv 0) pa_nil)) (C8.pe_c (ok__law_any_word T) hr (by decide) rfl (pa_cons (pv 0) pa_nil)))) pa_nil)))))), ?_⟩
    refine ⟨_, rfl, (by show 7 ≤ sizeLine; decide), fun p np => .inl ⟨r, p, _, rfl, hR.new np, RngAt.ne hR np, upd_same, by decide, by decide, fun v H1 hv e1 R1 => ?_⟩⟩
    have : ∃ n : Nat, n ≤ 8 ∧ v = .int n := by
      simp only [List.mem_cons, List.not_mem_nil, or_false] at hv
      rcases hv with rfl | rfl | rfl | rfl | rfl | rfl | rfl
      · exact ⟨0, by decide, rfl⟩
      · exact ⟨0, by decide, rfl⟩
      · exact ⟨1, by decide, rfl⟩
      · exact ⟨2, by decide, rfl⟩
      · exact ⟨3, by decide, rfl⟩
      · exact ⟨5, by decide, rfl⟩
      · exact ⟨8, by decide, rfl⟩
    obtain ⟨n, hn, rfl⟩ := this
    have e01 : Ext [r] H H1 := (Ext.new np).trans e1
    refine ⟨_, rfl, by omega, by omega, fun D hD => ?_⟩
    have nD : D ≠ r := RngAt.ne R1 hD
    have fD : H D = none := e01.back (by simpa using nD) hD
    refine lc_it walk_range (fun i H' => ∃ told : List (List Nat), told.length = i ∧ (∀ l ∈ told, WOk l) ∧ H' D = some (.lst (tls told)) ∧ Ext [r] H H' ∧ RngAt H' r) ⟨[], rfl, (fun _ h => absurd h List.not_mem_nil), upd_same, Ext.mut e01 fD, R1.new hD⟩ (fun _ _ _ _ => trivial) ?_ ?_
    · rintro i x H2' H2 hi ⟨told, l1, l2, g1, g2, g3⟩ ⟨rfl, rfl⟩
      refine ⟨rfl, _, rfl, r, rfl, g3, fun l H3 wl e3 R3 => ⟨_, e3 D _ (by simpa using nD) g1, ?_, told ++ [l], by simp [l1], fun z hz => ?_, ?_, Ext.mut (g2.trans e3) fD, ?_⟩⟩
      · unfold tls
        rw [List.length_map, l1]
        exact Nat.lt_of_lt_of_le (show i < 1000 by omega) (by decide)
      · rcases List.mem_append.mp hz with hz | hz
        · exact l2 z hz
        · cases List.mem_singleton.mp hz; exact wl
      · rw [upd_same, tls_app]; rfl
      · obtain ⟨a, b, h1, h2⟩ := R3
        exact ⟨a, b, by rw [upd_ne nD.symm]; exact h1, h2⟩
    · rintro H2 ⟨told, l1, l2, g1, g2, g3⟩
      refine ⟨_, rfl, ?_⟩
      refine ⟨fun v H' => ∃ far, FarOk far ∧ v = .str (tx (farT far)) ∧ Ext [r] H2 H' ∧ RngAt H' r, ⟨_, rfl, r, 2, rfl, g3, by decide, by decide, fun d H3 d0 d1 e3 R3 => ⟨rfl, _, rfl, it2 (fun c => ?_) (fun c => ?_)⟩⟩, ?_⟩
      · exact ⟨_, rfl, r, rfl, R3, fun A B H4 ok e4 R4 => ⟨.pat A B, ok, rfl, e3.trans e4, R4⟩⟩
      · exact ⟨_, rfl, r, rfl, R3, fun l H4 ok e4 R4 => ⟨.word l, ok, rfl, e3.trans e4, R4⟩⟩
      · rintro v H3 ⟨far, ok, rfl, e3, R3⟩
        refine ⟨(by show 2 ≤ sizeLine; decide), fun t ht => ?_⟩
        have h3D := e3 D _ (by simpa using nD) g1
        have nDt : D ≠ t := ne_of_none h3D ht
        have e03 := g2.trans e3
        have ntr : t ≠ r := RngAt.ne R3 ht
        refine q t D told far _ ⟨by omega, l2, ok⟩ (e03.trans (Ext.new ht)) (R3.new ht) (e03.back (by simpa using ntr) ht) fD ⟨upd_same, by rw [upd_ne nDt]; exact h3D⟩
theorem ok__law_widths (T : Tx.TX K mg) : C8.Cal P w K mg base 2 "_law_widths" (spWdl) [] := by
  refine calD (k := 1) T.d__law_widths T.g__law_widths Tx.sc__law_widths (fun _ _ _ _ _ _ us hl => match us, hl with | [_], _ => rfl) ?len ?run
  case len => rintro vs H Q E ⟨p, l, told, far, rfl, _⟩; rfl
  case run =>
    rintro cdv A' outer s H vs Q E hr ⟨p, l, told, far, rfl, PA, ok, q⟩
    refine ⟨_, by exact (pss_cons (ps_par (i := 1) (j := 2) (by rfl) Tx.sc__law_widths.nd rfl rfl (by decide) rfl rfl (pa_cons (pe_listRg rfl (by rfl) T.b_list (prg_1 (by rfl) T.b_range pe_int)) (pa_cons pe_int pa_nil)) (by rfl)) (pss_cons (ps_for PassesOwn.never rfl (pi_range1 (by rfl) T.b_range (pa_cons pe_int pa_nil)) (pg_name (i := 3) Tx.sc__law_widths.nd rfl (Or.inl rfl)) (pss_cons (ps_set (i := 2) Tx.sc__law_widths.nd rfl (Or.inl rfl) (pe_op op_mul pe_int (pv 2))) (pss_one (ps_expr (pe_bm PySem.F.plainAttrs_list PySem.F.slot_list_append PySem.F.type_list_append mt_append (pv 1) (pa_cons (pv 2) pa_nil)))))) (pss_one (ps_ret (pe_lc (own := [("_law_distance", 4)]) (g := gName 4) (tt := tYes) rfl Tx.sc__law_widths.nd (pi_list (pv 1)) (blkOk_by (own := [("_law_distance", 4)]) (N := Tx.N__law_widths) (sc := defScope Tx.s__law_widths) (by decide +kernel)) (fun _ _ _ _ _ => (pg_name (i := 4) Tx.sc__law_widths.nd rfl (Or.inl rfl))) (fun _ _ _ _ _ => pts_nil) (fun _ _ _ _ _ => (pe_callB call_len_str (by rfl) T.b_len (by decide +kernel) (pa_cons (C8.pe_c (ok__law_at T) hr (by decide) rfl (pa_cons (pv 0) (pa_cons (pv 4) pa_nil))) pa_nil)))))))), ?_⟩
    refine ⟨13, rfl, RgOk.of_le (by decide) (by decide) (by decide) (by decide), fun L nL => ?_⟩
    rw [rg13]
    refine ⟨_, _, rfl, _, rfl, by decide, by decide, for_it walk_range (fun i σ H' => (∃ o1 o2, σ = [some (.ref p), some (.ref L), some (.int ((10 : Int) ^ (i + 1))), o1, o2]) ∧ H' L = some (.lst ((List.range 13 ++ (List.range i).map pw).map fun d : Nat => V.int (d : Int))) ∧ Ext [] H H') ⟨⟨_, _, rfl⟩, upd_same, Ext.new nL⟩ (fun _ _ _ _ _ => trivial) ?_ ?_⟩
    · rintro i x σ H1' H1 hi ⟨⟨o1, o2, rfl⟩, g1, g2⟩ ⟨rfl, rfl⟩
      have hi' : i < 24 := hi
      refine ⟨_, rfl, _, _, rfl, rfl, ?_⟩
      have e10 : (10 : Int) * (10 : Int) ^ (i + 1) = (10 : Int) ^ (i + 1 + 1) := by rw [Int.pow_succ _ (i + 1), Int.mul_comm]
      dsimp only
      rw [e10]
      refine ⟨.inl ⟨by decide, by decide⟩, _, rfl, .inl ⟨rfl, _, SqL.of g1⟩, _, rfl, L, _, _, rfl, rfl, g1, ?_, ⟨_, _, rfl⟩, ?_, Ext.mut g2 nL⟩
      · rw [List.length_map, List.length_append, List.length_map, List.length_range, List.length_range]
        exact Nat.lt_of_lt_of_le (show 13 + i < 1000 by omega) (by decide)
      · rw [upd_same, List.range_succ (n := i), List.map_append (l₂ := [i]), ← List.append_assoc, List.map_append (l₂ := List.map pw [i])]
        have : ((pw i : Nat) : Int) = (10 : Int) ^ (i + 1 + 1) := by unfold pw; push_cast; rfl
        show _ = some (HO.lst (_ ++ [V.int ((pw i : Nat) : Int)]))
        rw [this]
    · rintro σ H1 ⟨⟨o1, o2, rfl⟩, g1, g2⟩
      have g1' : H1 L = some (.lst (dsts.map fun d : Nat => V.int (d : Int))) := g1
      refine ⟨_, rfl, L, rfl, ⟨_, SqL.of g1'⟩, fun D hD => ?_⟩
      have nLD : L ≠ D := ne_of_none g1' hD
      refine lc_it (walk_list (K := K) (a := L) (xs := dsts.map fun d : Nat => V.int (d : Int))) (fun i H' => H' D = some (.lst (wdl told far (dsts.take i))) ∧ H' L = some (.lst (dsts.map fun d : Nat => V.int (d : Int))) ∧ Ext [] H H') ⟨upd_same, by rw [upd_ne nLD]; exact g1', g2.trans (Ext.new hD)⟩ (fun _ _ _ h => SqL.of h.2.1) ?_ ?_
      · rintro i x H2' H2 hi ⟨k1, k2, k3⟩ ⟨rfl, hx⟩
        have hi' : i < dsts.length := by rw [List.length_map] at hi; exact hi
        have hx' : x = V.int ((dsts[i] : Nat) : Int) := by
          rw [List.getElem?_map, List.getElem?_eq_getElem hi'] at hx
          exact (Option.some.inj hx).symm
        subst hx'
        refine ⟨rfl, _, rfl, _, rfl, p, l, told, far, dsts[i], rfl, PA.ext0 k3, ok, dsts_lt _ (List.getElem_mem hi'), fun H3 e3 => ?_⟩
        refine ⟨_, rfl, by rw [tx_len]; exact Nat.le_trans (wordAt_len ok (dsts_lt _ (List.getElem_mem hi'))) (by decide), ?_⟩
        have nD0 : H D = none := g2.back (by simp) hD
        refine ⟨_, e3 D _ (by simp) k1, ?_, ?_, ?_, Ext.mut (k3.trans e3) nD0⟩
        · unfold wdl
          rw [List.length_map, List.length_take]
          rw [dsts_len] at hi'
          exact Nat.lt_of_le_of_lt (Nat.min_le_left _ _) (Nat.lt_of_lt_of_le (show i < 1000 by omega) (by decide))
        · rw [upd_same, tx_len, List.take_succ, List.getElem?_eq_getElem hi']
          unfold wdl
          rw [List.map_append]; rfl
        · rw [upd_ne nLD]
          exact e3 L _ (by simp) k2
      · rintro H2 ⟨k1, k2, k3⟩
        rw [List.length_map, List.take_length] at k1
        exact q D H2 k3 (g2.back (by simp) hD) k1
theorem ok__law_is_below (T : Tx.TX K mg) : C8.Cal P w K mg base 3 "_law_is_below" (spBelow) [] := by
  refine calD (k := 2) T.d__law_is_below T.g__law_is_below Tx.sc__law_is_below (fun _ _ _ _ _ _ us hl => match us, hl with | [_, _], _ => rfl) ?len ?run
  case len => rintro vs H Q E ⟨p, l, p', l', told, told', far, far', rfl, _⟩; rfl
  case run =>
    rintro cdv A' outer s H vs Q E hr ⟨p, l, p', l', told, told', far, far', rfl, PA, PB, oka, okb, q⟩
    refine ⟨_, by exact (pss_one (ps_ret (pe_callB (cr_all rfl) (by rfl) T.b_all (by decide +kernel) (pa_cons (pe_lc (own := [("_law_low", 2), ("_law_high", 3)]) (g := gTup K 2 (gCons (gName 2) (gCons (gName 3) gNil))) (tt := tYes) rfl Tx.sc__law_is_below.nd (pi_zip (by rfl) T.b_zip (pa_cons (C8.pe_c (ok__law_widths T) hr (by decide) rfl (pa_cons (pv 0) pa_nil)) (pa_cons (C8.pe_c (ok__law_widths T) hr (by decide) rfl (pa_cons (pv 1) pa_nil)) pa_nil))) (blkOk_by (own := [("_law_low", 2), ("_law_high", 3)]) (N := Tx.N__law_is_below) (sc := defScope Tx.s__law_is_below) (by decide +kernel)) (fun _ _ _ _ _ => by exact (pg_tup rfl (pgs_cons (pg_name (i := 2) Tx.sc__law_is_below.nd rfl (Or.inl rfl)) (pgs_cons (pg_name (i := 3) Tx.sc__law_is_below.nd rfl (Or.inl rfl)) pgs_nil)))) (fun _ _ _ _ _ => pts_nil) (fun _ _ _ _ _ => (pe_cmpR op_le (pv 2) (pv 3) (nomark _)))) pa_nil)))), ?_⟩
    refine ⟨_, rfl, p, l, told, far, rfl, PA, oka, fun a H1 e1 na h1 => ⟨_, rfl, p', l', told', far', rfl, PB.ext0 e1, okb, fun b H2 e2 nb h2 => ?_⟩⟩
    have h1' := e2 a _ (by simp) h1
    have e12 := e1.trans e2
    refine ⟨a, b, _, _, rfl, SqL.of h1', SqL.of h2, fun D hD => ?_⟩
    have naD : a ≠ D := ne_of_none h1' hD
    have nbD : b ≠ D := ne_of_none h2 hD
    have nD0 : H D = none := e12.back (by simp) hD
    have ll : ∀ (t : List (List Nat)) (f : Far), (wdl t f dsts).length = 37 := fun t f => by unfold wdl; rw [List.length_map, dsts_len]
    refine lc_it (walk_zip (K := K) (a := a) (b := b) (xs := wdl told far dsts) (ys := wdl told' far' dsts) (n := 37) (by rw [ll, ll]; rfl)) (fun i H' => H' D = some (.lst (((dsts.take i).map fun d => decide ((wordAt told far d).length ≤ (wordAt told' far' d).length)).map V.bl)) ∧ H' a = some (.lst (wdl told far dsts)) ∧ H' b = some (.lst (wdl told' far' dsts)) ∧ Ext [] H H') ⟨upd_same, by rw [upd_ne naD]; exact h1', by rw [upd_ne nbD]; exact h2, e12.trans (Ext.new hD)⟩ (fun _ _ _ h => ⟨SqL.of h.2.1, SqL.of h.2.2.1⟩) ?_ ?_
    · rintro i x H3' H3 hi ⟨k1, k2, k3, k4⟩ ⟨Tp, x1, x2, rfl, nT, rfl, z1, z2⟩
      have hi' : i < dsts.length := by rw [dsts_len]; exact hi
      have w1 : x1 = V.int ((wordAt told far dsts[i]).length : Int) := by
        unfold wdl at z1
        dsimp only at z1
        rw [List.getElem?_map, List.getElem?_eq_getElem hi'] at z1
        exact (Option.some.inj z1).symm
      have w2 : x2 = V.int ((wordAt told' far' dsts[i]).length : Int) := by
        unfold wdl at z2
        dsimp only at z2
        rw [List.getElem?_map, List.getElem?_eq_getElem hi'] at z2
        exact (Option.some.inj z2).symm
      subst w1
      subst w2
      have nDT : D ≠ Tp := ne_of_none k1 nT
      refine ⟨Tp, _, rfl, SqT.of upd_same, rfl, _, _, rfl, _, _, rfl, rfl, rfl, _, rfl, _, rfl, _, _, rfl, rfl, _, (by rw [upd_ne nDT]; exact k1), ?_, ?_, ?_, ?_, ?_⟩
      · rw [List.length_map, List.length_map, List.length_take]
        exact Nat.lt_of_le_of_lt (Nat.min_le_left _ _) (Nat.lt_of_lt_of_le (show i < 1000 by omega) (by decide))
      · rw [upd_same, List.take_succ, List.getElem?_eq_getElem hi', List.map_append, List.map_append]
        have : decide (((wordAt told far dsts[i]).length : Int) ≤ ((wordAt told' far' dsts[i]).length : Int)) = decide ((wordAt told far dsts[i]).length ≤ (wordAt told' far' dsts[i]).length) := by
          rw [decide_eq_decide]; omega
        show some (HO.lst (_ ++ [V.bl (decide (((wordAt told far dsts[i]).length : Int) ≤ ((wordAt told' far' dsts[i]).length : Int)))])) = _
        rw [this]; rfl
      · rw [upd_ne naD, upd_ne (ne_of_none k2 nT)]; exact k2
      · rw [upd_ne nbD, upd_ne (ne_of_none k3 nT)]; exact k3
      · exact Ext.mut (k4.trans (Ext.new nT)) nD0
    · rintro H3 ⟨k1, k2, k3, k4⟩
      refine ⟨D, _, rfl, SqL.of k1, ?_⟩
      rw [List.take_of_length_le (by rw [dsts_len]; exact Nat.le_refl _), List.all_map]
      exact q H3 k4
end
end K15
set_option maxHeartbeats 4000000
namespace K15
open PySem PySem.Spec PyProof.Rows L2 Eb
theorem sW : (PySem.Str.ofString "w" : Str) = tx [119] := by decide +kernel
theorem okW (n : Nat) : okL (List.replicate n [119]).flatten := okL_mem fun c hc => by
  obtain ⟨l, hl, hc⟩ := List.mem_flatten.mp hc
  rw [List.eq_of_mem_replicate hl] at hc
  rw [List.mem_singleton.mp hc]; rfl
theorem wok_cut {l : List Nat} (h : okL l) : WOk (l.take 20) := ⟨by rw [List.length_take]; omega, okL_take _ h⟩
/-- the plan on its way -/
def WJ (r c1 p : Addr) (H : Hp) (n : Nat) (H' : Hp) : Prop := ∃ told' : List (List Nat), told'.length = n ∧ (∀ l ∈ told', WOk l) ∧ H' c1 = some (.lst (tls told')) ∧ Ext [r] H H' ∧ RngAt H' r
section
variable {P : Program} {w : World} {K : PySem.W.Frag} {mg : Str → Option Value} {base : Heap}
theorem ok__law_wider (T : Tx.TX K mg) : C8.Cal P w K mg base 2 "_law_wider" (spWider) [] := by
  refine calD (k := 1) T.d__law_wider T.g__law_wider Tx.sc__law_wider (fun _ _ _ _ _ _ us hl => match us, hl with | [_, _], _ => rfl) ?len ?run
  case len => rintro vs H Q E ⟨r, p, l, told, far, rfl, _⟩; rfl
  case run =>
    rintro cdv A' outer s H vs Q E hr ⟨r, p, l, told, far, rfl, hR, PA, ok, q⟩
    refine ⟨_, by exact (pss_cons (ps_par (i := 2) (j := 3) (by rfl) Tx.sc__law_wider.nd rfl rfl (by decide) rfl rfl (pa_cons (pe_callTy call_list_of (by rfl) T.b_list (by decide +kernel) (pa_cons (pe_ix ix_tup (pv 1) pe_int (fun _ _ => rfl)) pa_nil)) (pa_cons (pe_ix ix_tup (pv 1) pe_int (fun _ _ => rfl)) pa_nil)) (by rfl)) (pss_cons (ps_for PassesOwn.never rfl (pi_range1 (by rfl) T.b_range (pa_cons (pe_callB call_len_seq (by rfl) T.b_len (by decide +kernel) (pa_cons (pv 2) pa_nil)) pa_nil)) (pg_name (i := 4) Tx.sc__law_wider.nd rfl (Or.inl rfl)) (pss_one (ps_asg (pe_slice sl_str (pe_op op_add_str (pe_ix ix_list (pv 2) (pv 4) (fun _ _ => rfl)) (pe_op op_repS pe_str (C8.pe_c (ok__law_draw T) hr (by decide) rfl (pa_cons (pv 0) (pa_cons pe_int pa_nil))))) po_none (po_some pe_int)) (pg_sub (pv 2) (pv 4) set_list)))) (pss_cons (ps_set (i := 5) Tx.sc__law_wider.nd rfl (Or.inl rfl) (C8.pe_c (ok__law_draw T) hr (by decide) rfl (pa_cons (pv 0) (pa_cons pe_int pa_nil)))) (pss_cons (ps_j (ps_if (PW.pt (pw_and (pt_cmpR op_eq (pv 5) pe_int (nomark _)) (pw_and1 (pt_cmpR op_lt (pe_callB call_len_seq (by rfl) T.b_len (by decide +kernel) (pa_cons (pv 2) pa_nil)) pe_int (nomark _))))) (pss_one (ps_expr (pe_bm PySem.F.plainAttrs_list PySem.F.slot_list_append PySem.F.type_list_append mt_append (pv 2) (pa_cons (C8.pe_c (ok__law_at T) hr (by decide) rfl (pa_cons (pv 1) (pa_cons (pe_callB call_len_seq (by rfl) T.b_len (by decide +kernel) (pa_cons (pv 2) pa_nil)) pa_nil))) pa_nil)))) pss_nil)) (pss_cons (ps_j (ps_if (PW.pt (pw_and (pt_cmpR op_eq (pv 5) pe_int (nomark _)) (pw_and1 (pt_cmpR op_in_sign pe_str (pv 3) (by rfl))))) (pss_one (ps_set (i := 3) Tx.sc__law_wider.nd rfl (Or.inl rfl) (pe_j (pe_ifExp (pt_cmpR op_gt (pe_callB call_len_str (by rfl) T.b_len (by decide +kernel) (pa_cons (pv 3) pa_nil)) pe_int (nomark _)) (pv 3) (pe_op op_add_str (pv 3) pe_str))))) pss_nil)) (pss_cons (ps_j (ps_if (PW.pt (pw_and (pt_cmpR op_eq (pv 5) pe_int (nomark _)) (pw_and1 (pt_cmpR op_notIn_sign pe_str (pv 3) (by rfl))))) (pss_one (ps_set (i := 3) Tx.sc__law_wider.nd rfl (Or.inl rfl) (pe_slice sl_str (pe_op op_add_str (pv 3) pe_str) po_none (po_some pe_int)))) pss_nil)) (pss_one (ps_ret (pe_tup (pa_cons (pv 2) (pa_cons (pv 3) pa_nil))))))))))), ?_⟩
    have n8 := ok.n
    have fl : (farT far).length ≤ 20 := by
      cases far with
      | word l => exact ok.f.sz
      | pat A B => have := ok.f.sz; show (A ++ 35 :: B).length ≤ 20; rw [List.length_append, List.length_cons]; omega
    refine ⟨_, rfl, p, _, 0, _, rfl, rfl, SqT.of PA.tp, rfl, l, _, rfl, .inl (SqL.of PA.ls), fun c1 nc1 => ?_⟩
    have e1 : Ext [] H (upd H c1 (.lst (tls told))) := Ext.new nc1
    have hc1 : upd H c1 (.lst (tls told)) c1 = some (.lst (tls told)) := upd_same
    have R1 := hR.ext e1 (by simp)
    have PA1 := PA.ext0 e1
    have ncr : c1 ≠ r := RngAt.ne hR nc1
    generalize upd H c1 (.lst (tls told)) = H1 at e1 hc1 R1 PA1 ⊢
    have el : ∀ t : List (List Nat), (tls t).length = t.length := fun t => List.length_map _
    refine ⟨_, rfl, p, _, 1, _, rfl, rfl, SqT.of PA1.tp, rfl, _, _, rfl, ?_⟩
    refine ⟨_, rfl, c1, _, rfl, .inl (SqL.of hc1), _, rfl, by rw [el]; omega, by rw [el]; omega, for_it walk_range (fun i σ H' => (∃ o, σ = [some (.ref r), some (.ref p), some (.ref c1), some (.str (tx (farT far))), o, none]) ∧ WJ r c1 p H told.length H') ⟨⟨_, rfl⟩, told, rfl, ok.w, hc1, e1.sub (by simp), R1⟩ (fun _ _ _ _ _ => trivial) ?_ ?_⟩
    · rintro i x σ H2' H2 hi ⟨⟨o, rfl⟩, told', t1, t2, t3, t4, t5⟩ ⟨rfl, rfl⟩
      have hi' : i < told'.length := by rw [t1, ← el]; omega
      have wi := t2 told'[i] (List.getElem_mem hi')
      refine ⟨_, rfl, _, rfl, c1, _, _, V.str (tx told'[i]), rfl, rfl, SqL.of t3, at_of (j := i) (by omega) (by unfold tls; rw [List.getElem?_map, List.getElem?_eq_getElem hi']; rfl), ?_⟩
      refine ⟨_, rfl, r, 3, rfl, t5, by decide, by decide, fun d H3 d0 d1 e3 R3 => ?_⟩
      obtain ⟨k, rfl⟩ : ∃ k : Nat, d = (k : Int) := ⟨d.toNat, by omega⟩
      have h3 := e3 c1 _ (by simpa using ncr) t3
      have lw : (List.replicate k [119]).flatten.length = k := by rw [List.length_flatten, List.map_replicate, List.sum_replicate_nat]; simp
      have w20 := wi.sz
      refine ⟨[119], k, by rw [sW], rfl, by omega, by decide, _, _, rfl, rfl, ?_, ?_⟩
      · rw [tx_len, tx_len, lw]; exact sz1000 (by omega)
      rw [tx_app]
      refine ⟨_, rfl, _, rfl, ?_, ?_⟩
      · rw [tx_len, List.length_append, lw]; exact sz1000 (by omega)
      rw [show (20 : Int) = ((20 : Nat) : Int) from rfl, cut_to]
      refine ⟨_, rfl, _, rfl, c1, _, _, i, rfl, rfl, h3, ?_, ?_⟩
      · unfold ixN; rw [if_pos (by omega), if_pos (by rw [el]; omega)]; congr 1; omega
      refine ⟨⟨_, rfl⟩, told'.set i ((told'[i] ++ (List.replicate k [119]).flatten).take 20), by rw [List.length_set, t1], fun z hz => ?_, ?_, Ext.mut (t4.trans e3) nc1, ?_⟩
      · rcases List.mem_or_eq_of_mem_set hz with hz | hz
        · exact t2 z hz
        · rw [hz]; exact wok_cut (okL_app wi.ok (okW k))
      · rw [upd_same]; unfold tls; rw [List.map_set]
      · obtain ⟨x, y, z1, z2⟩ := R3
        exact ⟨x, y, by rw [upd_ne ncr.symm]; exact z1, z2⟩
    · rintro σ H2 ⟨⟨o, rfl⟩, told', t1, t2, t3, t4, t5⟩
      refine ⟨_, rfl, r, 4, rfl, t5, by decide, by decide, fun d H3 d0 d1 e3 R3 => ?_⟩
      have h3 := e3 c1 _ (by simpa using ncr) t3
      have e03 := t4.trans e3
      have PA3 := PA.extR hR e03
      -- way == 0
      refine ⟨fun σ' H' => σ' = [some (.ref r), some (.ref p), some (.ref c1), some (.str (tx (farT far))), o, some (.int d)] ∧ ∃ told2 : List (List Nat), told2.length ≤ 8 ∧ (∀ l ∈ told2, WOk l) ∧ H' c1 = some (.lst (tls told2)) ∧ Ext [r] H H' ∧ RngAt H' r, ?_, ?_⟩
      · refine ⟨_, rfl, rfl, _, rfl, it2 (fun c => ?_) (fun c => ?_)⟩
        · refine ⟨_, rfl, c1, _, rfl, .inl (SqL.of h3), _, _, rfl, rfl, _, rfl, it2 (fun c2 => ?_) (fun c2 => ?_)⟩
          · have c2' := of_decide_eq_true c2
            rw [el] at c2'
            refine ⟨_, rfl, .inl ⟨rfl, _, SqL.of h3⟩, _, rfl, _, rfl, c1, _, rfl, .inl (SqL.of h3), p, l, told, far, told'.length, by rw [el]; rfl, PA3, ok, pow1900 (by omega), fun H4 e4 => ?_⟩
            refine ⟨c1, _, _, rfl, rfl, e4 c1 _ (by simp) h3, ?_, rfl, told' ++ [wordAt told far told'.length], ?_, ?_, ?_, Ext.mut (e03.trans (e4.sub (by simp))) nc1, ?_⟩
            · rw [el]; exact Nat.lt_of_lt_of_le (show told'.length < 1000 by omega) (by decide)
            · rw [List.length_append]; show told'.length + 1 ≤ 8; omega
            · intro z hz
              rcases List.mem_append.mp hz with hz | hz
              · exact t2 z hz
              · rw [List.mem_singleton.mp hz]; exact word_wok ok (by omega)
            · rw [upd_same, tls_app]; rfl
            · obtain ⟨x, y, z1, z2⟩ := R3.ext e4 (by simp)
              exact ⟨x, y, by rw [upd_ne ncr.symm]; exact z1, z2⟩
          · exact ⟨rfl, told', by omega, t2, h3, e03, R3⟩
        · exact ⟨rfl, told', by omega, t2, h3, e03, R3⟩
      rintro σ' H4 ⟨rfl, told2, u1, u2, u3, u4, u5⟩
      have hsh : (PySem.Str.ofString "#" : Str) = ⟨#[35]⟩ := by rw [Eb.hash_eq]
      -- way == 1
      refine ⟨fun σ' H' => H' = H4 ∧ ∃ far2 : Far, FarOk far2 ∧ σ' = [some (.ref r), some (.ref p), some (.ref c1), some (.str (tx (farT far2))), o, some (.int d)], ?_, ?_⟩
      · refine ⟨_, rfl, rfl, _, rfl, it2 (fun c => ?_) (fun c => ?_)⟩
        · refine ⟨_, rfl, 35, _, hsh ▸ rfl, rfl, _, rfl, ?_⟩
          rw [hash_mem far ok.f]
          refine it2 (fun c2 => ?_) (fun c2 => ?_)
          · cases far with
            | word l => cases c2
            | pat A B =>
              have pk := ok.f.sz
              refine ⟨fun v H' => H' = H4 ∧ ∃ A2 B2, PatOk A2 B2 ∧ v = .str (tx (A2 ++ 35 :: B2)), ⟨_, rfl, _, rfl, ?_, _, _, rfl, rfl, _, rfl, it2 (fun c3 => ?_) (fun c3 => ?_)⟩, ?_⟩
              · rw [tx_len]; exact sz1000 (Nat.le_trans fl (by decide))
              · exact ⟨_, rfl, rfl, A, B, ok.f, rfl⟩
              · have c3' := of_decide_eq_false c3
                rw [tx_len] at c3'
                have lf : (farT (.pat A B)).length = A.length + B.length + 1 := by show (A ++ 35 :: B).length = _; rw [List.length_append, List.length_cons]; omega
                refine ⟨_, rfl, _, _, rfl, rfl, ?_, ?_⟩
                · rw [tx_len, sW, tx_len]; exact sz1000 (by show (farT (.pat A B)).length + 1 ≤ 1000; omega)
                rw [sW, tx_app]
                refine ⟨rfl, A, B ++ [119], ⟨ok.f.a, okL_app ok.f.b rfl, ?_⟩, ?_⟩
                · rw [List.length_append]; show A.length + (B.length + 1) ≤ _; omega
                · show V.str (tx ((A ++ 35 :: B) ++ [119])) = _
                  rw [List.append_assoc]; rfl
              · rintro v H' ⟨rfl, A2, B2, okp, rfl⟩
                exact ⟨rfl, .pat A2 B2, okp, rfl⟩
          · exact ⟨rfl, far, ok.f, rfl⟩
        · exact ⟨rfl, far, ok.f, rfl⟩
      rintro σ' H5 ⟨rfl, far2, okf, rfl⟩
      -- way == 2
      refine ⟨fun σ' H' => H' = H5 ∧ ∃ far3 : Far, FarOk far3 ∧ σ' = [some (.ref r), some (.ref p), some (.ref c1), some (.str (tx (farT far3))), o, some (.int d)], ?_, ?_⟩
      · refine ⟨_, rfl, rfl, _, rfl, it2 (fun c => ?_) (fun c => ?_)⟩
        · refine ⟨_, rfl, 35, _, hsh ▸ rfl, rfl, _, rfl, ?_⟩
          rw [hash_mem far2 okf]
          refine it2 (fun c2 => ?_) (fun c2 => ?_)
          · cases far2 with
            | pat A B => cases c2
            | word l =>
              have pk := okf.sz
              refine ⟨_, rfl, _, _, rfl, rfl, ?_, ?_⟩
              · rw [sW, tx_len]; show (tx l).length + 1 ≤ _; rw [tx_len]; exact sz1000 (by omega)
              rw [sW, tx_app]
              refine ⟨_, rfl, _, rfl, ?_, ?_⟩
              · rw [tx_len, List.length_append]; exact sz1000 (by show l.length + 1 ≤ 1000; omega)
              rw [show (20 : Int) = ((20 : Nat) : Int) from rfl, cut_to]
              refine ⟨rfl, Far.word (List.take 20 (l ++ [119])), ?_, rfl⟩
              exact wok_cut (l := l ++ [119]) (okL_app okf.ok rfl)
          · exact ⟨rfl, far2, okf, rfl⟩
        · exact ⟨rfl, far2, okf, rfl⟩
      rintro σ' H6 ⟨rfl, far3, okf3, rfl⟩
      refine ⟨_, rfl, _, rfl, (by show 2 ≤ sizeLine; decide), fun t nt => ?_⟩
      have nct : c1 ≠ t := ne_of_none u3 nt
      exact q t c1 told2 far3 _ ⟨u1, u2, okf3⟩ (u4.trans (Ext.new nt)) (u5.new nt) ⟨upd_same, by rw [upd_ne nct]; exact u3⟩
end
end K15
set_option maxHeartbeats 4000000
namespace K15
open PySem PySem.Spec PyProof.Rows L2 Eb
/-! ## the plain law -/
theorem dig_pos (d : Nat) : 1 ≤ (dig d).length := by
  rw [dig_len]
  exact Nat.length_repr_pos
theorem dig26 : (dig (pw 23)).length = 26 := by decide +kernel
theorem wordAt_far {told : List (List Nat)} {far : Far} {d : Nat} (h : told.length ≤ d) : wordAt told far d = farWord far d := by
  unfold wordAt
  rw [List.getElem?_eq_none h]
theorem mem13 {d : Nat} (h : d < 13) : d ∈ dsts := List.mem_append_left _ (List.mem_range.mpr h)
theorem mem25 : pw 23 ∈ dsts := List.mem_append_right _ (List.mem_map.mpr ⟨23, List.mem_range.mpr (by decide), rfl⟩)
theorem pw23 : 8 ≤ pw 23 := by decide +kernel
theorem below_nar {told told' : List (List Nat)} {far far' : Far} (ha : RowOk told far) (hb : RowOk told' far') : below told far told' far' = nar told far told' far' := by
  have na := ha.n
  have nb := hb.n
  rw [Bool.eq_iff_iff]
  unfold below nar
  rw [List.all_eq_true, Bool.and_eq_true_iff, List.all_eq_true]
  constructor
  · intro h
    refine ⟨?_, fun d hd => h d (mem13 (by have := List.mem_range.mp hd; omega))⟩
    cases far with
    | word l => rfl
    | pat A B =>
      cases far' with
      | pat C D => rfl
      | word l =>
        exfalso
        have := of_decide_eq_true (h _ mem25)
        rw [wordAt_far (Nat.le_trans na pw23), wordAt_far (Nat.le_trans nb pw23)] at this
        have z : (A ++ dig (pw 23) ++ B).length ≤ l.length := this
        rw [List.length_append, List.length_append, dig26] at z
        have := hb.f.sz
        omega
  · rintro ⟨hp, h⟩ d hd
    by_cases c : d < max told.length told'.length + 1
    · exact h d (List.mem_range.mpr c)
    · have hn := of_decide_eq_true (h (max told.length told'.length) (List.mem_range.mpr (by omega)))
      rw [wordAt_far (by omega), wordAt_far (by omega)] at hn
      refine decide_eq_true ?_
      rw [wordAt_far (by omega), wordAt_far (by omega)]
      have d1 := dig1 (max told.length told'.length) (by omega)
      have dp := dig_pos d
      cases far with
      | word l =>
        cases far' with
        | word m => exact hn
        | pat C D =>
          have z : l.length ≤ (C ++ dig (max told.length told'.length) ++ D).length := hn
          show l.length ≤ (C ++ dig d ++ D).length
          rw [d1] at z
          simp only [List.length_append, List.length_cons, List.length_nil] at z ⊢
          omega
      | pat A B =>
        cases far' with
        | word m => cases hp
        | pat C D =>
          have z : (A ++ dig (max told.length told'.length) ++ B).length ≤ (C ++ dig (max told.length told'.length) ++ D).length := hn
          show (A ++ dig d ++ B).length ≤ (C ++ dig d ++ D).length
          simp only [List.length_append] at z ⊢
          omega
theorem nar_refl (told : List (List Nat)) (far : Far) : nar told far told far = true := by
  unfold nar
  rw [Bool.and_eq_true_iff, List.all_eq_true]
  refine ⟨by cases far <;> rfl, fun d _ => decide_eq_true (Nat.le_refl _)⟩
theorem wordAt_more (told : List (List Nat)) (far : Far) (d : Nat) : wordAt (told ++ [wordAt told far told.length]) far d = wordAt told far d := by
  rcases Nat.lt_trichotomy d told.length with h | h | h
  · unfold wordAt
    rw [List.getElem?_append_left h]
  · subst h
    unfold wordAt
    rw [List.getElem?_append_right (Nat.le_refl _), Nat.sub_self, List.getElem?_eq_none (Nat.le_refl _)]; rfl
  · rw [wordAt_far (by rw [List.length_append]; show told.length + 1 ≤ d; omega), wordAt_far (by omega)]
theorem nar_more (told : List (List Nat)) (far : Far) : nar told far (told ++ [wordAt told far told.length]) far = true ∧ nar (told ++ [wordAt told far told.length]) far told far = true := by
  constructor <;>
  · unfold nar
    rw [Bool.and_eq_true_iff, List.all_eq_true]
    refine ⟨by cases far <;> rfl, fun d _ => decide_eq_true ?_⟩
    rw [wordAt_more]; exact Nat.le_refl _
theorem more_ok {told : List (List Nat)} {far : Far} (h : RowOk told far) (hn : told.length < 8) : RowOk (told ++ [wordAt told far told.length]) far := by
  refine ⟨by rw [List.length_append]; show told.length + 1 ≤ 8; omega, fun z hz => ?_, h.f⟩
  rcases List.mem_append.mp hz with hz | hz
  · exact h.w z hz
  · rw [List.mem_singleton.mp hz]; exact word_wok h (by omega)
theorem more_ne (told : List (List Nat)) (far : Far) (x : List Nat) : rowEq told far (told ++ [x]) far = false := by
  unfold rowEq
  rw [decide_eq_false, Bool.false_and]
  intro z
  have := congrArg List.length z
  rw [List.length_append] at this
  have : told.length = told.length + 1 := this
  omega
theorem farT_eq {f g : Far} (hf : FarOk f) (hg : FarOk g) : decide (farT f = farT g) = farEq f g := by
  cases f with
  | word l =>
    cases g with
    | word m => rfl
    | pat C D =>
      refine decide_eq_false fun z => ?_
      have z : l = C ++ 35 :: D := z
      exact okL_ne hf.ok 35 (by rw [z]; simp) rfl
  | pat A B =>
    cases g with
    | pat C D => rfl
    | word m =>
      refine decide_eq_false fun z => ?_
      have z : A ++ 35 :: B = m := z
      exact okL_ne hg.ok 35 (by rw [← z]; simp) rfl
/-- a plan as data -/
def planD (told : List (List Nat)) (far : Far) : PyData := .tuple [.list (told.map fun l => PyData.str (tx l)), .str (tx (farT far))]
theorem dp_plan {K : PySem.W.Frag} {H : Hp} {p l : Addr} {told : List (List Nat)} {far : Far} (h : PlanAt H p l told far) : Dp K H (.ref p) (planD told far) :=
  .tup (SqT.of h.tp) (.cons (.lst (SqL.of h.ls) (dp_tls told)) (.cons (.str _) .nil))
theorem farT_lt {f : Far} (h : FarOk f) : ∀ c ∈ farT f, c < 128 := by
  cases f with
  | word l => exact ok_lt h.ok
  | pat A B =>
    intro c hc
    rcases List.mem_append.mp (show c ∈ A ++ 35 :: B from hc) with z | z
    · exact ok_lt h.a c z
    · rcases List.mem_cons.mp z with z | z
      · rw [z]; decide
      · exact ok_lt h.b c z
theorem shaped_plan {told : List (List Nat)} {far : Far} (h : RowOk told far) : SeqAt.shaped (planD told far) = true := by
  unfold SeqAt.shaped planD
  have := dep_tls told
  rw [PyData.canLay0, PyData.canLayAll0, PyData.canLay0, lay_tls told h.w, PyData.canLayAll0, PyData.canLay0, strOk_tx (farT_lt h.f), PyData.canLayAll0]
  simp [PyData.depth, PyData.depthAll]
  omega
theorem eqv_plan {told told' : List (List Nat)} {far far' : Far} (ha : RowOk told far) (hb : RowOk told' far') : PyData.eqv (planD told far) (planD told' far') = rowEq told far told' far' := by
  unfold planD rowEq
  rw [PyData.eqv, PyData.eqvAll, PyData.eqv, eqv_tls, PyData.eqvAll, PyData.eqvAll, ← farT_eq ha.f hb.f]
  have : PyData.eqv (.str (tx (farT far))) (.str (tx (farT far'))) = decide (farT far = farT far') := by
    simp only [PyData.eqv]
    by_cases h : farT far = farT far'
    · rw [h]; simp
    · rw [decide_eq_false h]
      exact beq_eq_false_iff_ne.mpr fun z => h (tx_inj z)
  rw [this, Bool.and_true]
theorem rowEq_refl (told : List (List Nat)) (far : Far) : rowEq told far told far = true := by
  unfold rowEq
  cases far <;> simp [farEq]
end K15
set_option maxHeartbeats 4000000
namespace K15
open PySem PySem.Spec PyProof.Rows L2 Eb
def spPair : Sp := fun vs H Q _ => ∃ (p l p' l' : Addr) (told told' : List (List Nat)) (far far' : Far), vs = [.ref p, .ref p'] ∧ PlanAt H p l told far ∧ PlanAt H p' l' told' far' ∧ RowOk told far ∧ RowOk told' far' ∧ ∀ H', Ext [] H H' → Q (.bl true) H'
def spMore : Sp := fun vs H Q _ => ∃ (p l : Addr) (told : List (List Nat)) (far : Far), vs = [.ref p] ∧ PlanAt H p l told far ∧ RowOk told far ∧ ∀ H', Ext [] H H' → Q (.bl true) H'
def bD (bs : List Bool) : PyData := .list (bs.map PyData.bool)
theorem dat_bools {R : List Addr} {H : Hp} : ∀ bs : List Bool, Dats R H (bs.map PyData.bool) (bs.map V.bl)
  | [] => dats_nil.mpr rfl
  | b :: r => dats_cons.mpr ⟨_, _, rfl, dat_bool.mpr rfl, dat_bools r⟩
theorem dat_bD {H : Hp} {a : Addr} {bs : List Bool} (h : H a = some (.lst (bs.map V.bl))) : Dat [] H (bD bs) (.ref a) := dat_list.mpr ⟨a, _, rfl, by simp, h, dat_bools bs⟩
theorem sha_bools : ∀ bs : List Bool, ShA (bs.map PyData.bool) (5 * bs.length) (if bs.length = 0 then 0 else 1)
  | [] => sha_nil
  | b :: r => by
    have := sha_cons (sh_bool b) (sha_bools r)
    rw [List.map_cons, List.length_cons, if_neg (by omega), show 5 * (r.length + 1) = 5 + 5 * r.length by omega]
    have e : max 1 (if r.length = 0 then 0 else 1) = 1 := by split <;> rfl
    rw [e] at this
    exact this
theorem showy_bD {bs : List Bool} (h : bs.length ≤ 10) : Showy (bD bs) := (sh_list (sha_bools bs)).showy (by rw [List.length_map]; omega) (by split <;> decide)
theorem cmp {K : PySem.W.Frag} {H' : Hp} {f : List (List Nat) → Far → List (List Nat) → Far → Bool} {x y tx' ty : Addr} {tl tl' : List (List Nat)} {fr fr' : Far} {R : VK} (hx : RowAt K H' x tx' tl fr) (hy : RowAt K H' y ty tl' fr') (ox : RowOk tl fr) (oy : RowOk tl' fr') (hR : ∀ H'', Ext [] H' H'' → R (.bl (f tl fr tl' fr')) H'') : rCmpO (cRow K) (spTwo K f) (.ref x) (.ref y) H' R := by
  obtain ⟨⟨dx, v, h1, _⟩, _⟩ := id hx
  obtain ⟨⟨dy, v', h2, _⟩, _⟩ := id hy
  exact ⟨x, dx, _, y, dy, _, rfl, rfl, h1, h2, x, tx', y, ty, tl, tl', fr, fr', rfl, hx, hy, ox, oy, fun H'' e => ⟨⟨_, rfl⟩, hR H'' e⟩⟩
theorem cmpN {K : PySem.W.Frag} {H' : Hp} {f : List (List Nat) → Far → List (List Nat) → Far → Bool} {x y tx' ty : Addr} {tl tl' : List (List Nat)} {fr fr' : Far} {R : VK} (hx : RowAt K H' x tx' tl fr) (hy : RowAt K H' y ty tl' fr') (ox : RowOk tl fr) (oy : RowOk tl' fr') (hR : ∀ H'', Ext [] H' H'' → R (.bl (!f tl fr tl' fr')) H'') : rNeO (cRow K) (spTwo K f) (.ref x) (.ref y) H' R := by
  obtain ⟨⟨dx, v, h1, _⟩, _⟩ := id hx
  obtain ⟨⟨dy, v', h2, _⟩, _⟩ := id hy
  exact ⟨x, dx, _, y, dy, _, rfl, rfl, h1, h2, x, tx', y, ty, tl, tl', fr, fr', rfl, hx, hy, ox, oy, fun H'' e => ⟨_, rfl, hR H'' e⟩⟩
section
variable {P : Program} {w : World} {K : PySem.W.Frag} {mg : Str → Option Value} {base : Heap}
theorem ok__law_pair_right (T : Tx.TX K mg) : CalG P w K mg base 8 "_law_pair_right" (spPair) := by
  refine calG (k := 7) T.d__law_pair_right T.g__law_pair_right Tx.sc__law_pair_right (fun _ _ _ _ _ _ us hl => match us, hl with | [_, _], _ => rfl) ?len ?run
  case len => rintro vs H Q E ⟨p, l, p', l', told, told', far, far', rfl, _⟩; rfl
  case run =>
    rintro cdv A' outer s H vs Q E hgd hr ⟨p, l, p', l', told, told', far, far', rfl, PA, PB, oka, okb, q⟩
    refine ⟨_, by exact (pss_cons (ps_par (i := 2) (j := 3) (by rfl) Tx.sc__law_pair_right.nd rfl rfl (by decide) rfl rfl (pa_cons (C8.pe_c (ok__law_real T) hr (by decide) rfl (pa_cons (pv 0) pa_nil)) (pa_cons (C8.pe_c (ok__law_real T) hr (by decide) rfl (pa_cons (pv 1) pa_nil)) pa_nil)) (by rfl)) (pss_cons (ps_par (i := 4) (j := 5) (by rfl) Tx.sc__law_pair_right.nd rfl rfl (by decide) rfl rfl (pa_cons (C8.pe_c (ok__law_is_below T) hr (by decide) rfl (pa_cons (pv 0) (pa_cons (pv 1) pa_nil))) (pa_cons (C8.pe_c (ok__law_is_below T) hr (by decide) rfl (pa_cons (pv 1) (pa_cons (pv 0) pa_nil))) pa_nil)) (by rfl)) (pss_cons (ps_set (i := 6) Tx.sc__law_pair_right.nd rfl (Or.inl rfl) (pe_lst (pa_cons (pe_cmpR (op_cmpO (ok_Row_le T) rfl (fun _ _ => rfl) hr (by decide)) (pv 2) (pv 3) (nomark _)) (pa_cons (pe_cmpR (op_cmpO (ok_Row_lt T) rfl (fun _ _ => rfl) hr (by decide)) (pv 2) (pv 3) (nomark _)) (pa_cons (pe_cmpR (op_cmpO (ok_Row_le T) rfl (fun _ _ => rfl) hr (by decide)) (pv 3) (pv 2) (nomark _)) (pa_cons (pe_cmpR (op_cmpO (ok_Row_lt T) rfl (fun _ _ => rfl) hr (by decide)) (pv 3) (pv 2) (nomark _)) pa_nil)))))) (pss_cons (ps_if (pt_cmpR op_ne (pe_callB (call_reprD hgd hr) (by rfl) T.b_repr (by decide +kernel) (pa_cons (pv 6) pa_nil)) (pe_callB (call_reprD hgd hr) (by rfl) T.b_repr (by decide +kernel) (pa_cons (pe_lst (pa_cons (pv 4) (pa_cons (pe_j (pe_and (pv 4) (pe_one (pe_not (pv 5))))) (pa_cons (pv 5) (pa_cons (pe_j (pe_and (pv 5) (pe_one (pe_not (pv 4))))) pa_nil))))) pa_nil)) (nomark _)) (pss_one (ps_ret pe_bl)) pss_nil) (pss_one (ps_ret (pe_cmpR op_eq (pe_callB (call_reprD hgd hr) (by rfl) T.b_repr (by decide +kernel) (pa_cons (pe_lst (pa_cons (pe_cmpR (op_cmpO (ok_Row_le T) rfl (fun _ _ => rfl) hr (by decide)) (pv 2) (pv 2) (nomark _)) (pa_cons (pe_cmpR (op_cmpO (ok_Row_lt T) rfl (fun _ _ => rfl) hr (by decide)) (pv 2) (pv 2) (nomark _)) (pa_cons (pe_cmpR (op_cmpO (ok_Row_eq T) rfl (fun _ _ => rfl) hr (by decide)) (pv 2) (pv 3) (nomark _)) pa_nil)))) pa_nil)) (pe_callB (call_reprD hgd hr) (by rfl) T.b_repr (by decide +kernel) (pa_cons (pe_lst (pa_cons pe_bl (pa_cons pe_bl (pa_cons (pe_cmpR (op_eqD hr.units) (pv 0) (pv 1) (nomark _)) pa_nil)))) pa_nil)) (nomark _)))))))), ?_⟩
    refine ⟨_, rfl, p, l, told, far, rfl, PA, oka, fun a t H1 e1 na nt RA => ?_⟩
    refine ⟨_, rfl, p', l', told', far', rfl, PB.ext0 e1, okb, fun b u H2 e2 nb nu RB => ?_⟩
    have e12 := e1.trans e2
    refine ⟨_, _, rfl, ?_⟩
    refine ⟨_, rfl, _, rfl, p, l, p', l', told, told', far, far', rfl, PA.ext0 e12, PB.ext0 e12, oka, okb, fun H3 e3 => ?_⟩
    refine ⟨_, rfl, _, rfl, p', l', p, l, told', told, far', far, rfl, PB.ext0 (e12.trans e3), PA.ext0 (e12.trans e3), okb, oka, fun H4 e4 => ?_⟩
    refine ⟨_, _, rfl, ?_⟩
    rw [below_nar oka okb, below_nar okb oka]
    have RA4 := ((RA.ext0 e2).ext0 e3).ext0 e4
    have RB4 := (RB.ext0 e3).ext0 e4
    have e04 := (e12.trans e3).trans e4
    have PA4 := PA.ext0 e04
    have PB4 := PB.ext0 e04
    -- told
    refine ⟨_, rfl, _, rfl, cmp RA4 RB4 oka okb fun H5 e5 => ?_⟩
    refine ⟨_, rfl, _, rfl, cmp (RA4.ext0 e5) (RB4.ext0 e5) oka okb fun H6 e6 => ?_⟩
    refine ⟨_, rfl, _, rfl, cmp ((RB4.ext0 e5).ext0 e6) ((RA4.ext0 e5).ext0 e6) okb oka fun H7 e7 => ?_⟩
    refine ⟨_, rfl, _, rfl, cmp (((RB4.ext0 e5).ext0 e6).ext0 e7) (((RA4.ext0 e5).ext0 e6).ext0 e7) okb oka fun H8 e8 => ?_⟩
    have e58 := ((e5.trans e6).trans e7).trans e8
    refine ⟨(by show 4 ≤ sizeLine; decide), fun L nL => ?_⟩
    generalize hn1 : nar told far told' far' = n1
    generalize hn2 : nar told' far' told far = n2
    have hL : (upd H8 L (.lst [V.bl n1, V.bl (n1 && !n2), V.bl n2, V.bl (n2 && !n1)])) L = some (.lst ([n1, n1 && !n2, n2, n2 && !n1].map V.bl)) := upd_same
    have eL : Ext [] H4 (upd H8 L (.lst [V.bl n1, V.bl (n1 && !n2), V.bl n2, V.bl (n2 && !n1)])) := e58.trans (Ext.new nL)
    dsimp only
    generalize upd H8 L (.lst [V.bl n1, V.bl (n1 && !n2), V.bl n2, V.bl (n2 && !n1)]) = H9 at hL eL ⊢
    refine ⟨_, rfl, L, [], _, rfl, dat_bD hL, showy_bD (Nat.le_of_ble_eq_true rfl), _, rfl, fun v H' => v = .bl (n1 && !n2) ∧ H' = H9, ⟨_, rfl, _, rfl, ?_⟩, ?_⟩
    · cases n1
      · exact itF rfl ⟨rfl, rfl⟩
      · exact itT rfl ⟨_, rfl, _, rfl, rfl, rfl⟩
    rintro v H' ⟨rfl, rfl⟩
    refine ⟨_, rfl, fun v H'' => v = .bl (n2 && !n1) ∧ H'' = H', ⟨_, rfl, _, rfl, ?_⟩, ?_⟩
    · cases n2
      · exact itF rfl ⟨rfl, rfl⟩
      · exact itT rfl ⟨_, rfl, _, rfl, rfl, rfl⟩
    rintro v H'' ⟨rfl, rfl⟩
    refine ⟨(by show 4 ≤ sizeLine; decide), fun M nM => ⟨M, [], bD [n1, n1 && !n2, n2, n2 && !n1], rfl, dat_bD upd_same, showy_bD (Nat.le_of_ble_eq_true rfl), rfl, _, rfl, itF (by simp) ?_⟩⟩
    have eM : Ext [] H4 (upd H'' M (.lst [V.bl n1, V.bl (n1 && !n2), V.bl n2, V.bl (n2 && !n1)])) := eL.trans (Ext.new nM)
    generalize upd H'' M (.lst [V.bl n1, V.bl (n1 && !n2), V.bl n2, V.bl (n2 && !n1)]) = Ha at eM ⊢
    have RAa := RA4.ext0 eM
    have RBa := RB4.ext0 eM
    refine ⟨_, rfl, _, rfl, cmp RAa RAa oka oka fun Hb eb => ?_⟩
    refine ⟨_, rfl, _, rfl, cmp (RAa.ext0 eb) (RAa.ext0 eb) oka oka fun Hc ec => ?_⟩
    refine ⟨_, rfl, _, rfl, cmp ((RAa.ext0 eb).ext0 ec) ((RBa.ext0 eb).ext0 ec) oka okb fun Hd ed => ?_⟩
    dsimp only
    rw [nar_refl]
    refine ⟨(by show 3 ≤ sizeLine; decide), fun N nN => ⟨N, [], bD [true, true && !true, rowEq told far told' far'], rfl, dat_bD upd_same, showy_bD (Nat.le_of_ble_eq_true rfl), ?_⟩⟩
    have eN : Ext [] H4 (upd Hd N (.lst [V.bl true, V.bl (true && !true), V.bl (rowEq told far told' far')])) := (((eM.trans eb).trans ec).trans ed).trans (Ext.new nN)
    generalize upd Hd N (.lst [V.bl true, V.bl (true && !true), V.bl (rowEq told far told' far')]) = He' at eN ⊢
    refine ⟨_, rfl, _, rfl, _, _, dp_plan (PA4.ext0 eN), dp_plan (PB4.ext0 eN), shaped_plan oka, shaped_plan okb, ?_⟩
    rw [eqv_plan oka okb]
    refine ⟨(by show 3 ≤ sizeLine; decide), fun O nO => ⟨O, [], bD [true, false, rowEq told far told' far'], rfl, dat_bD upd_same, showy_bD (Nat.le_of_ble_eq_true rfl), rfl, ?_⟩⟩
    have hd : decide (V.str (bD [true, true && !true, rowEq told far told' far']).shown = V.str (bD [true, false, rowEq told far told' far']).shown) = true := decide_eq_true rfl
    rw [hd]
    exact q _ ((e04.trans eN).trans (Ext.new nO))
theorem ok__law_told_more_right (T : Tx.TX K mg) : CalG P w K mg base 8 "_law_told_more_right" (spMore) := by
  refine calG (k := 7) T.d__law_told_more_right T.g__law_told_more_right Tx.sc__law_told_more_right (fun _ _ _ _ _ _ us hl => match us, hl with | [_], _ => rfl) ?len ?run
  case len => rintro vs H Q E ⟨p, l, told, far, rfl, _⟩; rfl
  case run =>
    rintro cdv A' outer s H vs Q E hgd hr ⟨p, l, told, far, rfl, PA, ok, q⟩
    refine ⟨_, by exact (pss_cons (ps_if (pt_cmpR op_eq (pe_callB call_len_seq (by rfl) T.b_len (by decide +kernel) (pa_cons (pe_ix ix_tup (pv 0) pe_int (fun _ _ => rfl)) pa_nil)) pe_int (nomark _)) (pss_one (ps_ret pe_bl)) pss_nil) (pss_cons (ps_set (i := 1) Tx.sc__law_told_more_right.nd rfl (Or.inl rfl) (pe_tup (pa_cons (pe_op op_cat (pe_ix ix_tup (pv 0) pe_int (fun _ _ => rfl)) (pe_lst (pa_cons (C8.pe_c (ok__law_at T) hr (by decide) rfl (pa_cons (pv 0) (pa_cons (pe_callB call_len_seq (by rfl) T.b_len (by decide +kernel) (pa_cons (pe_ix ix_tup (pv 0) pe_int (fun _ _ => rfl)) pa_nil)) pa_nil))) pa_nil))) (pa_cons (pe_ix ix_tup (pv 0) pe_int (fun _ _ => rfl)) pa_nil)))) (pss_cons (ps_par (i := 2) (j := 3) (by rfl) Tx.sc__law_told_more_right.nd rfl rfl (by decide) rfl rfl (pa_cons (C8.pe_c (ok__law_real T) hr (by decide) rfl (pa_cons (pv 0) pa_nil)) (pa_cons (C8.pe_c (ok__law_real T) hr (by decide) rfl (pa_cons (pv 1) pa_nil)) pa_nil)) (by rfl)) (pss_cons (ps_set (i := 4) Tx.sc__law_told_more_right.nd rfl (Or.inl rfl) (pe_lst (pa_cons (pe_cmpR (op_cmpO (ok_Row_eq T) rfl (fun _ _ => rfl) hr (by decide)) (pv 2) (pv 3) (nomark _)) (pa_cons (pe_cmpR (op_neO (ok_Row_eq T) T.nn_Row T.mo_Row hr (by decide)) (pv 2) (pv 3) (nomark _)) (pa_cons (pe_cmpR (op_cmpO (ok_Row_le T) rfl (fun _ _ => rfl) hr (by decide)) (pv 2) (pv 3) (nomark _)) (pa_cons (pe_cmpR (op_cmpO (ok_Row_le T) rfl (fun _ _ => rfl) hr (by decide)) (pv 3) (pv 2) (nomark _)) (pa_cons (pe_cmpR (op_cmpO (ok_Row_lt T) rfl (fun _ _ => rfl) hr (by decide)) (pv 2) (pv 3) (nomark _)) pa_nil))))))) (pss_one (ps_ret (pe_cmpR op_eq (pe_callB (call_reprD hgd hr) (by rfl) T.b_repr (by decide +kernel) (pa_cons (pv 4) pa_nil)) pe_str (nomark _)))))))), ?_⟩
    have el : ∀ t : List (List Nat), (tls t).length = t.length := fun t => List.length_map _
    refine ⟨_, rfl, p, _, 0, _, rfl, rfl, SqT.of PA.tp, rfl, l, _, rfl, .inl (SqL.of PA.ls), rfl, _, rfl, it2 (fun c => ?_) (fun c => ?_)⟩
    · exact q H (Ext.refl H)
    have n8 : told.length < 8 := by
      have := ok.n
      have c' := of_decide_eq_false c
      rw [el] at c'
      rcases Nat.lt_or_ge told.length 8 with z | z
      · exact z
      · exact absurd (by rw [show told.length = 8 by omega]; rfl) c'
    refine ⟨_, rfl, p, _, 0, _, rfl, rfl, SqT.of PA.tp, rfl, _, rfl, _, rfl, p, _, 0, _, rfl, rfl, SqT.of PA.tp, rfl, l, _, rfl, .inl (SqL.of PA.ls), p, l, told, far, told.length, by rw [el]; rfl, PA, ok, pow1900 (by omega), fun H1 e1 => ?_⟩
    have PA1 := PA.ext0 e1
    refine ⟨(by show 1 ≤ sizeLine; decide), fun c1 nc1 => ?_⟩
    have n1 : l ≠ c1 := ne_of_none PA1.ls nc1
    refine ⟨l, c1, _, _, rfl, rfl, (by rw [upd_ne n1]; exact PA1.ls), upd_same, by rw [el]; exact sz1000 (by show told.length + 1 ≤ 1000; omega), fun c2 nc2 => ?_⟩
    have e2 : Ext [] H1 (upd (upd H1 c1 (.lst [V.str (tx (wordAt told far told.length))])) c2 (.lst (tls told ++ [V.str (tx (wordAt told far told.length))]))) := (Ext.new nc1).trans (Ext.new nc2)
    have hc2 : (upd (upd H1 c1 (.lst [V.str (tx (wordAt told far told.length))])) c2 (.lst (tls told ++ [V.str (tx (wordAt told far told.length))]))) c2 = some (.lst (tls (told ++ [wordAt told far told.length]))) := by rw [upd_same, tls_app]; rfl
    generalize (upd (upd H1 c1 (.lst [V.str (tx (wordAt told far told.length))])) c2 (.lst (tls told ++ [V.str (tx (wordAt told far told.length))]))) = H2 at e2 hc2 ⊢
    have PA2 := PA1.ext0 e2
    refine ⟨_, rfl, p, _, 1, _, rfl, rfl, SqT.of PA2.tp, rfl, (by show 2 ≤ sizeLine; decide), fun m nm => ?_⟩
    have ncm : c2 ≠ m := ne_of_none hc2 nm
    have PM : PlanAt (upd H2 m (.tup [.ref c2, .str (tx (farT far))])) m c2 (told ++ [wordAt told far told.length]) far := ⟨upd_same, by rw [upd_ne ncm]; exact hc2⟩
    have e3 : Ext [] H2 (upd H2 m (.tup [.ref c2, .str (tx (farT far))])) := Ext.new nm
    generalize (upd H2 m (.tup [.ref c2, .str (tx (farT far))])) = H3 at PM e3 ⊢
    have okm := more_ok ok n8
    refine ⟨_, rfl, p, l, told, far, rfl, PA2.ext0 e3, ok, fun a t H4 e4 na nt RA => ?_⟩
    refine ⟨_, rfl, m, c2, _, far, rfl, PM.ext0 e4, okm, fun b u H5 e5 nb nu RB => ?_⟩
    refine ⟨_, _, rfl, ?_⟩
    have RA5 := RA.ext0 e5
    refine ⟨_, rfl, _, rfl, cmp RA5 RB ok okm fun H6 e6 => ?_⟩
    refine ⟨_, rfl, _, rfl, cmpN (RA5.ext0 e6) (RB.ext0 e6) ok okm fun H7 e7 => ?_⟩
    refine ⟨_, rfl, _, rfl, cmp ((RA5.ext0 e6).ext0 e7) ((RB.ext0 e6).ext0 e7) ok okm fun H8 e8 => ?_⟩
    refine ⟨_, rfl, _, rfl, cmp (((RB.ext0 e6).ext0 e7).ext0 e8) (((RA5.ext0 e6).ext0 e7).ext0 e8) okm ok fun H9 e9 => ?_⟩
    refine ⟨_, rfl, _, rfl, cmp ((((RA5.ext0 e6).ext0 e7).ext0 e8).ext0 e9) ((((RB.ext0 e6).ext0 e7).ext0 e8).ext0 e9) ok okm fun Ha ea => ?_⟩
    dsimp only
    rw [more_ne, (nar_more told far).1, (nar_more told far).2]
    refine ⟨(by show 5 ≤ sizeLine; decide), fun L nL => ⟨_, rfl, L, [], bD [false, !false, true, true, true && !true], rfl, dat_bD upd_same, showy_bD (Nat.le_of_ble_eq_true rfl), rfl, ?_⟩⟩
    have eA := ((((((((e1.trans e2).trans e3).trans e4).trans e5).trans e6).trans e7).trans e8).trans e9).trans ea
    have sh : (bD [false, !false, true, true, true && !true]).shown = (PySem.Str.ofString "[False, True, True, True, False]" : Str) := by decide +kernel
    rw [sh, decide_eq_true rfl]
    exact q _ (eA.trans (Ext.new nL))
end
end K15
set_option maxHeartbeats 4000000
namespace K15
open PySem PySem.Spec PyProof.Rows L2 Eb
def spChR : Sp := fun vs H Q _ => ∃ (r p l p' l' : Addr) (told told' : List (List Nat)) (far far' : Far), vs = [.ref r, .ref p, .ref p'] ∧ RngAt H r ∧ PlanAt H p l told far ∧ PlanAt H p' l' told' far' ∧ RowOk told far ∧ RowOk told' far' ∧ ∀ H', Ext [r] H H' → RngAt H' r → Q (.bl true) H'
theorem rowF_patF (t : Addr) (v : V) (A B : List Nat) : rowF t v ≠ patF A B := fun z => by
  have := congrArg List.length z
  cases this
section
variable {P : Program} {w : World} {K : PySem.W.Frag} {mg : Str → Option Value} {base : Heap}
theorem ok__law_changed_right (T : Tx.TX K mg) : C8.Cal P w K mg base 8 "_law_changed_right" (spChR) [] := by
  refine calD (k := 7) T.d__law_changed_right T.g__law_changed_right Tx.sc__law_changed_right (fun _ _ _ _ _ _ us hl => match us, hl with | [_, _, _], _ => rfl) ?len ?run
  case len => rintro vs H Q E ⟨r, p, l, p', l', told, told', far, far', rfl, _⟩; rfl
  case run =>
    rintro cdv A' outer s H vs Q E hr ⟨r, p, l, p', l', told, told', far, far', rfl, hR, PA, PB, ok, okb, q⟩
    refine ⟨_, by exact (pss_cons (ps_par3 (i := 3) (j := 4) (l := 5) (by rfl) Tx.sc__law_changed_right.nd rfl rfl rfl (by decide) (by decide) (by decide) rfl rfl rfl (pa_cons (C8.pe_c (ok__law_real T) hr (by decide) rfl (pa_cons (pv 1) pa_nil)) (pa_cons (C8.pe_c (ok__law_real T) hr (by decide) rfl (pa_cons (pv 2) pa_nil)) (pa_cons (C8.pe_c (ok__law_draw T) hr (by decide) rfl (pa_cons (pv 0) (pa_cons pe_int pa_nil))) pa_nil))) (by rfl)) (pss_cons (ps_par (i := 6) (j := 7) (by rfl) Tx.sc__law_changed_right.nd rfl rfl (by decide) rfl rfl (pa_cons (pe_cmpR (op_cmpO (ok_Row_le T) rfl (fun _ _ => rfl) hr (by decide)) (pv 3) (pv 4) (nomark _)) (pa_cons (C8.pe_c (ok__law_any_word T) hr (by decide) rfl (pa_cons (pv 0) pa_nil)) pa_nil)) (by rfl)) (pss_cons (ps_set (i := 8) Tx.sc__law_changed_right.nd rfl (Or.inl rfl) (pe_op op_cat (pe_callTy call_list_of (by rfl) T.b_list (by decide +kernel) (pa_cons (pe_ix ix_tup (pv 1) pe_int (fun _ _ => rfl)) pa_nil)) (pe_lc (own := [("_law_distance", 9)]) (g := gName 9) (tt := tYes) rfl Tx.sc__law_changed_right.nd (pi_range2 (by rfl) T.b_range (pa_cons (pe_callB call_len_seq (by rfl) T.b_len (by decide +kernel) (pa_cons (pe_ix ix_tup (pv 1) pe_int (fun _ _ => rfl)) pa_nil)) (pa_cons (pe_op op_add (pv 5) pe_int) pa_nil))) (blkOk_by (own := [("_law_distance", 9)]) (N := Tx.N__law_changed_right) (sc := defScope Tx.s__law_changed_right) (by decide +kernel)) (fun _ _ _ _ _ => (pg_name (i := 9) Tx.sc__law_changed_right.nd rfl (Or.inl rfl))) (fun _ _ _ _ _ => pts_nil) (fun _ _ _ _ _ => (C8.pe_c (ok__law_at T) hr (by decide) rfl (pa_cons (pv 1) (pa_cons (pv 9) pa_nil))))))) (pss_cons (ps_set (i := 10) Tx.sc__law_changed_right.nd rfl (Or.inl rfl) (pe_tup (pa_cons (pe_op op_cat (pe_op op_cat (pe_slice sl_list (pv 8) po_none (po_some (pv 5))) (pe_lst (pa_cons (pv 7) pa_nil))) (pe_slice sl_list (pv 8) (po_some (pe_op op_add (pv 5) pe_int)) po_none)) (pa_cons (pe_ix ix_tup (pv 1) pe_int (fun _ _ => rfl)) pa_nil)))) (pss_cons (ps_set (i := 11) Tx.sc__law_changed_right.nd rfl (Or.inl rfl) (C8.pe_mt0 (ok_Row_copy T) hr (by decide) (pv 3))) (pss_cons (ps_asg (pv 7) (pg_sub (pv 3) (pv 5) (set_own (ok_Row_setitem T) T.nq_Row hr (by decide)))) (pss_cons (ps_if (pt_j (PW.pt (pw_or (pt_cmpR op_ne (pe_cmpR (op_cmpO (ok_Row_le T) rfl (fun _ _ => rfl) hr (by decide)) (pv 3) (pv 4) (nomark _)) (C8.pe_c (ok__law_is_below T) hr (by decide) rfl (pa_cons (pv 10) (pa_cons (pv 2) pa_nil))) (nomark _)) (pw_or1 (pt_cmpR op_ne (pe_cmpR (op_cmpO (ok_Row_le T) rfl (fun _ _ => rfl) hr (by decide)) (pv 11) (pv 4) (nomark _)) (pv 6) (nomark _)))))) (pss_one (ps_ret pe_bl)) pss_nil) (pss_cons (ps_set (i := 12) Tx.sc__law_changed_right.nd rfl (Or.inl rfl) (pe_j (pe_ifExp (pt_cmpR op_eq (C8.pe_c (ok__law_draw T) hr (by decide) rfl (pa_cons (pv 0) (pa_cons pe_int pa_nil))) pe_int (nomark _)) (C8.pe_c (ok__law_pattern_text T) hr (by decide) rfl (pa_cons (pv 0) pa_nil)) (C8.pe_c (ok__law_any_word T) hr (by decide) rfl (pa_cons (pv 0) pa_nil))))) (pss_cons (ps_expr (C8.pe_mt (ok_Row_set_far T) hr (by decide) (pv 4) (pa_cons (C8.pe_c (ok__law_far T) hr (by decide) rfl (pa_cons (pv 12) pa_nil)) pa_nil))) (pss_one (ps_ret (pe_and (pe_cmpR op_eq (pe_cmpR (op_cmpO (ok_Row_le T) rfl (fun _ _ => rfl) hr (by decide)) (pv 3) (pv 4) (nomark _)) (C8.pe_c (ok__law_is_below T) hr (by decide) rfl (pa_cons (pv 10) (pa_cons (pe_tup (pa_cons (pe_ix ix_tup (pv 2) pe_int (fun _ _ => rfl)) (pa_cons (pv 12) pa_nil))) pa_nil))) (nomark _)) (pe_one (pe_cmpR (op_cmpO (ok_Row_eq T) rfl (fun _ _ => rfl) hr (by decide)) (pv 3) (C8.pe_c (ok__law_real T) hr (by decide) rfl (pa_cons (pv 10) pa_nil)) (nomark _))))))))))))))), ?_⟩
    have el : (tls told).length = told.length := List.length_map _
    have n8 := ok.n
    refine ⟨_, rfl, p, l, told, far, rfl, PA, ok, fun a t H1 e1 na nt RA1 => ?_⟩
    refine ⟨_, rfl, p', l', told', far', rfl, PB.ext0 e1, okb, fun b u H2 e2 nb nu RB2 => ?_⟩
    have e02 := e1.trans e2
    have R2 := hR.ext e02 (by simp)
    have RA2 := RA1.ext0 e2
    refine ⟨_, rfl, r, 8, rfl, R2, by decide, by decide, fun d H3 d0 d1 e3 R3 => ?_⟩
    obtain ⟨k, rfl⟩ : ∃ k : Nat, d = (k : Int) := ⟨d.toNat, by omega⟩
    have hk : k < 8 := by omega
    refine ⟨_, _, _, rfl, ?_⟩
    have RA3 := RA2.extR R2 e3
    have RB3 := RB2.extR R2 e3
    refine ⟨_, rfl, _, rfl, cmp RA3 RB3 ok okb fun H4 e4 => ?_⟩
    have R4 := R3.ext e4 (by simp)
    refine ⟨_, rfl, r, rfl, R4, fun wl H5 wok e5 R5 => ?_⟩
    have RA5 := (RA3.ext0 e4).extR R4 e5
    have RB5 := (RB3.ext0 e4).extR R4 e5
    have e05 : Ext [r] H H5 := (((e02.sub (by simp)).trans e3).trans (e4.sub (by simp))).trans e5
    have PA5' := PA.extR hR e05
    have PB5 := PB.extR hR e05
    refine ⟨_, _, rfl, ?_⟩
    -- apart
    have nut : u ≠ t := fun z => by
      have := RA1.ls
      rw [← z, nu] at this
      cases this
    have nab : a ≠ b := fun z => by
      obtain ⟨⟨_, _, h, _⟩, _⟩ := RA1
      rw [z, nb] at h
      cases h
    have nlt : l' ≠ t := fun z => by
      have := PB.ls
      rw [z, nt] at this
      cases this
    -- terms
    refine ⟨_, rfl, p, _, 0, _, rfl, rfl, SqT.of PA5'.tp, rfl, l, _, rfl, .inl (SqL.of PA5'.ls), fun c1 nc1 => ?_⟩
    have e6 : Ext [] H5 (upd H5 c1 (.lst (tls told))) := Ext.new nc1
    have hc1 : upd H5 c1 (.lst (tls told)) c1 = some (.lst (tls told)) := upd_same
    generalize upd H5 c1 (.lst (tls told)) = H6 at e6 hc1 ⊢
    have PA6 := PA5'.ext0 e6
    refine ⟨_, rfl, p, _, 0, _, rfl, rfl, SqT.of PA6.tp, rfl, l, _, rfl, .inl (SqL.of PA6.ls), _, rfl, _, _, rfl, rfl, _, _, rfl, ⟨by omega, by omega, by omega, by omega⟩, fun D hD => ?_⟩
    refine lc_it walk_range (fun i H' => H' D = some (.lst (tls ((List.range' told.length i).map (wordAt told far)))) ∧ Ext [] H6 H') ⟨upd_same, Ext.new hD⟩ (fun _ _ _ _ => trivial) ?_ ?_
    · rintro i x H7' H7 hi ⟨g1, g2⟩ ⟨rfl, rfl⟩
      refine ⟨rfl, _, rfl, _, rfl, p, l, told, far, told.length + i, (by show [V.ref p, V.int (((tls told).length : Int) + (i : Int))] = _; rw [el]; rfl), PA6.ext0 g2, ok, pow1900 (by omega), fun H8 e8 => ⟨_, e8 D _ (by simp) g1, ?_, ?_, Ext.mut (g2.trans e8) hD⟩⟩
      · unfold tls
        rw [List.length_map, List.length_map, List.length_range']
        exact Nat.lt_of_lt_of_le (show i < 1000 by omega) (by decide)
      · rw [upd_same, List.range'_concat, List.map_append, tls_app]
        show _ = some (HO.lst (_ ++ tls [wordAt told far (told.length + 1 * i)]))
        rw [Nat.one_mul]; rfl
    rintro H7 ⟨g1, g2⟩
    have en : (((k : Int) + 1) - ((tls told).length : Int)).toNat = k + 1 - told.length := by omega
    rw [en] at g1
    have hc7 := g2 c1 _ (by simp) hc1
    refine ⟨c1, D, _, _, rfl, rfl, hc7, g1, ?_, fun X hX => ?_⟩
    · unfold tls
      rw [List.length_map, List.length_map, List.length_map, List.length_range']
      exact sz1000 (by omega)
    have eX : tls told ++ tls ((List.range' told.length (k + 1 - told.length)).map (wordAt told far)) = tls (upTo told far (k + 1)) := (tls_app _ _).symm
    rw [eX]
    have e58 : Ext [] H5 (upd H7 X (.lst (tls (upTo told far (k + 1))))) := (e6.trans g2).trans (Ext.new hX)
    have hX8 : upd H7 X (.lst (tls (upTo told far (k + 1)))) X = some (.lst (tls (upTo told far (k + 1)))) := upd_same
    generalize upd H7 X (.lst (tls (upTo told far (k + 1)))) = H8 at e58 hX8 ⊢
    have lu : (upTo told far (k + 1)).length = max told.length (k + 1) := upTo_len _ _ _
    have lt : (tls (upTo told far (k + 1))).length = max told.length (k + 1) := by unfold tls; rw [List.length_map, lu]
    -- later
    refine ⟨_, rfl, _, rfl, _, rfl, X, _, rfl, SqL.of hX8, fun p1 n1 => ?_⟩
    rw [cutV_to]
    refine ⟨_, rfl, (by show 1 ≤ sizeLine; decide), fun p2 n2 => ?_⟩
    have n12 : p1 ≠ p2 := ne_of_none upd_same n2
    refine ⟨p1, p2, _, _, rfl, rfl, (by rw [upd_ne n12]; exact upd_same), upd_same, by rw [List.length_take]; exact sz1000 (by simp; omega), fun p3 n3 => ?_⟩
    have e9 : Ext [] H8 (upd (upd (upd H8 p1 (.lst ((tls (upTo told far (k + 1))).take k))) p2 (.lst [V.str (tx wl)])) p3 (.lst ((tls (upTo told far (k + 1))).take k ++ [V.str (tx wl)]))) := ((Ext.new n1).trans (Ext.new n2)).trans (Ext.new n3)
    have h93 : (upd (upd (upd H8 p1 (.lst ((tls (upTo told far (k + 1))).take k))) p2 (.lst [V.str (tx wl)])) p3 (.lst ((tls (upTo told far (k + 1))).take k ++ [V.str (tx wl)]))) p3 = some (.lst ((tls (upTo told far (k + 1))).take k ++ [V.str (tx wl)])) := upd_same
    generalize (upd (upd (upd H8 p1 (.lst ((tls (upTo told far (k + 1))).take k))) p2 (.lst [V.str (tx wl)])) p3 (.lst ((tls (upTo told far (k + 1))).take k ++ [V.str (tx wl)]))) = H9 at e9 h93 ⊢
    refine ⟨_, rfl, _, rfl, _, _, rfl, rfl, _, rfl, X, _, rfl, SqL.of (e9 X _ (by simp) hX8), fun p4 n4 => ?_⟩
    rw [show ((k : Int) + 1) = ((k + 1 : Nat) : Int) by omega, cutV_from]
    have n34 : p3 ≠ p4 := ne_of_none h93 n4
    refine ⟨p3, p4, _, _, rfl, rfl, (by rw [upd_ne n34]; exact h93), upd_same, by rw [List.length_append, List.length_take, List.length_drop]; exact sz1000 (by simp; omega), fun p5 n5 => ?_⟩
    have es : (tls (upTo told far (k + 1))).take k ++ [V.str (tx wl)] ++ (tls (upTo told far (k + 1))).drop (k + 1) = tls (setAt told far k wl) := by
      rw [set_cut _ _ _ (by omega)]
      unfold setAt tls
      rw [List.map_set]
    rw [es]
    have e10 : Ext [] H9 (upd (upd H9 p4 (.lst ((tls (upTo told far (k + 1))).drop (k + 1)))) p5 (.lst (tls (setAt told far k wl)))) := (Ext.new n4).trans (Ext.new n5)
    have h105 : (upd (upd H9 p4 (.lst ((tls (upTo told far (k + 1))).drop (k + 1)))) p5 (.lst (tls (setAt told far k wl)))) p5 = some (.lst (tls (setAt told far k wl))) := upd_same
    have n5' : H9 p5 = none := Ext.free (Ext.new n4) n5
    generalize (upd (upd H9 p4 (.lst ((tls (upTo told far (k + 1))).drop (k + 1)))) p5 (.lst (tls (setAt told far k wl)))) = H10 at e10 h105 ⊢
    have e5a : Ext [] H5 H10 := (e58.trans e9).trans e10
    refine ⟨_, rfl, p, _, 1, _, rfl, rfl, SqT.of (PA5'.ext0 e5a).tp, rfl, (by show 2 ≤ sizeLine; decide), fun p6 n6 => ?_⟩
    have n56 : p5 ≠ p6 := ne_of_none h105 n6
    have PL : PlanAt (upd H10 p6 (.tup [.ref p5, .str (tx (farT far))])) p6 p5 (setAt told far k wl) far := ⟨upd_same, by rw [upd_ne n56]; exact h105⟩
    have e5b : Ext [] H5 (upd H10 p6 (.tup [.ref p5, .str (tx (farT far))])) := e5a.trans (Ext.new n6)
    have n5t : p5 ≠ t := fun z => by
      have := (e58.trans e9) t _ (by simp) RA5.ls
      rw [← z, n5'] at this
      cases this
    generalize (upd H10 p6 (.tup [.ref p5, .str (tx (farT far))])) = H11 at PL e5b ⊢
    have okl := setAt_ok ok hk wok
    have RA11 := RA5.ext0 e5b
    have RB11 := RB5.ext0 e5b
    -- olds
    obtain ⟨⟨dx, v, ha, hf⟩, ht⟩ := id RA11
    refine ⟨_, rfl, a, dx, _, rfl, ha, rowF_n7 t v, a, t, told, far, rfl, RA11, ok, fun c cu H12 e12 nc ncu RC12 => ?_⟩
    have RA12 := RA11.ext0 e12
    have RB12 := RB11.ext0 e12
    have PL12 := PL.ext0 e12
    have PB12 := (PB5.ext0 e5b).ext0 e12
    have R12 := (R5.ext e5b (by simp)).ext e12 (by simp)
    obtain ⟨⟨dx2, v2, ha2, hf2⟩, ht2⟩ := id RA12
    have ncut : cu ≠ t := fun z => by rw [z, ht] at ncu; cases ncu
    -- near[at] = word
    refine ⟨_, rfl, _, rfl, _, rfl, a, dx2, _, rfl, ha2, a, t, told, far, k, wl, rfl, RA12, ok, hk, wok, fun H13 e13 RA13 => ?_⟩
    have npt : ∀ b' ∈ [t], ∀ C dx A B, H12 b' ≠ some (.ins C dx (patF A B)) := fun b' hb' C dx A B z => by
      cases List.mem_singleton.mp hb'
      rw [ht2] at z
      cases z
    have nb_t : b ≠ t := fun z => by
      obtain ⟨⟨_, _, h, _⟩, _⟩ := id RB12
      rw [z, ht2] at h
      cases h
    have nc_t : c ≠ t := fun z => by
      obtain ⟨⟨_, _, h, _⟩, _⟩ := id RC12
      rw [z, ht2] at h
      cases h
    have RB13 := RB12.ext e13 (by simpa using nb_t) (by simpa using nut) npt
    have RC13 := RC12.ext e13 (by simpa using nc_t) (by simpa using ncut) npt
    have np6 : p6 ≠ t := ne_of PL12.tp ht2 (by intro z; cases z)
    have np' : p' ≠ t := ne_of PB12.tp ht2 (by intro z; cases z)
    have PL13 := PL12.ext e13 (by simpa using np6) (by simpa using n5t)
    have PB13 := PB12.ext e13 (by simpa using np') (by simpa using nlt)
    have nrt : r ≠ t := fun z => by
      obtain ⟨x, y, h1, _⟩ := R12
      rw [z, ht2] at h1
      exact tls_ne told x y (HO.lst.inj (Option.some.inj h1))
    have R13 := R12.ext e13 (by simpa using nrt)
    have nb0 : H b = none := e1.back (by simp) nb
    have e0c : Ext [r] H H12 := (e05.trans (e5b.sub (by simp))).trans (e12.sub (by simp))
    have e0d : Ext [r] H H13 := fun x o nx hx => e13 x o (by intro z; cases List.mem_singleton.mp z; rw [nt] at hx; cases hx) (e0c x o nx hx)
    refine ⟨fun b' H' => b' = false ∧ Ext [] H13 H', ?_, ?_⟩
    · refine ⟨_, rfl, _, rfl, cmp RA13 RB13 okl okb fun H14 e14 => ⟨_, rfl, _, rfl, p6, p5, p', l', _, told', far, far', rfl, PL13.ext0 e14, PB13.ext0 e14, okl, okb, fun H15 e15 => ?_⟩⟩
      rw [below_nar okl okb]
      refine ⟨rfl, _, rfl, itF (by simp) ?_⟩
      have e35 := e14.trans e15
      refine ⟨_, rfl, _, rfl, cmp (RC13.ext0 e35) (RB13.ext0 e35) ok okb fun H16 e16 => ⟨_, rfl, rfl, _, rfl, ?_, e35.trans e16⟩⟩
      simp
    rintro b' H14 ⟨rfl, e14⟩
    refine itF rfl ?_
    have RA14 := RA13.ext0 e14
    have RB14 := RB13.ext0 e14
    have PL14 := PL13.ext0 e14
    have PB14 := PB13.ext0 e14
    have R14 := R13.ext e14 (by simp)
    have e0e : Ext [r] H H14 := e0d.trans (e14.sub (by simp))
    -- spelt
    refine ⟨fun v H' => ∃ far2, FarOk far2 ∧ v = .str (tx (farT far2)) ∧ Ext [r] H14 H' ∧ RngAt H' r, ⟨_, rfl, r, 2, rfl, R14, by decide, by decide, fun d H3' d0 d1 e3' R3' => ⟨rfl, _, rfl, it2 (fun c => ?_) (fun c => ?_)⟩⟩, ?_⟩
    · exact ⟨_, rfl, r, rfl, R3', fun A B H4' okp e4' R4' => ⟨.pat A B, okp, rfl, e3'.trans e4', R4'⟩⟩
    · exact ⟨_, rfl, r, rfl, R3', fun l H4' okp e4' R4' => ⟨.word l, okp, rfl, e3'.trans e4', R4'⟩⟩
    rintro v' H15 ⟨far2, okf, rfl, e15, R15⟩
    have RA15 := RA14.extR R14 e15
    have RB15 := RB14.extR R14 e15
    have PL15 := PL14.extR R14 e15
    have PB15 := PB14.extR R14 e15
    obtain ⟨⟨dyb, vb, hb15, hfb⟩, htb⟩ := id RB15
    refine ⟨_, rfl, b, dyb, _, rfl, hb15, rowF_n8 u vb, _, rfl, far2, rfl, okf, fun v3 H16 e16 hv3 => ?_⟩
    have RB16 := RB15.ext0 e16
    refine ⟨b, u, told', far', far2, v3, rfl, RB16, hv3, okf, fun H17 e17 RB17 => ?_⟩
    obtain ⟨⟨dyc, vc, hb16, hfc⟩, htc⟩ := id RB16
    have RA16 := RA15.ext0 e16
    have PL16 := PL15.ext0 e16
    have PB16 := PB15.ext0 e16
    have R16 := R15.ext e16 (by simp)
    have npb : ∀ b' ∈ [b], ∀ C dx A B, H16 b' ≠ some (.ins C dx (patF A B)) := fun b' hb' C dx A B z => by
      cases List.mem_singleton.mp hb'
      rw [hb16] at z
      cases Option.some.inj z
    have ntb : t ≠ b := nb_t.symm
    have RA17 := RA16.ext e17 (by simpa using nab) (by simpa using ntb) npb
    have np6b : p6 ≠ b := ne_of PL16.tp hb16 (by intro z; cases z)
    have np5b : p5 ≠ b := ne_of PL16.ls hb16 (by intro z; cases z)
    have np'b : p' ≠ b := ne_of PB16.tp hb16 (by intro z; cases z)
    have nl'b : l' ≠ b := ne_of PB16.ls hb16 (by intro z; cases z)
    have nrb : r ≠ b := fun z => by
      obtain ⟨x, y, h1, _⟩ := R16
      rw [z, hb16] at h1
      cases h1
    have PL17 := PL16.ext e17 (by simpa using np6b) (by simpa using np5b)
    have PB17 := PB16.ext e17 (by simpa using np'b) (by simpa using nl'b)
    have R17 := R16.ext e17 (by simpa using nrb)
    have e0f : Ext [r] H H17 := fun x o nx hx => e17 x o (by intro z; cases List.mem_singleton.mp z; rw [nb0] at hx; cases hx) (((e0e.trans e15).trans (e16.sub (by simp))) x o nx hx)
    have ok2 : RowOk told' far2 := ⟨okb.n, okb.w, okf⟩
    refine ⟨_, rfl, _, rfl, cmp RA17 RB17 okl ok2 fun H18 e18 => ?_⟩
    have PB18 := PB17.ext0 e18
    refine ⟨_, rfl, _, rfl, p', _, 0, _, rfl, rfl, SqT.of PB18.tp, rfl, _, rfl, (by show 2 ≤ sizeLine; decide), fun p7 n7 => ?_⟩
    have nl7 : l' ≠ p7 := ne_of_none PB18.ls n7
    have PN : PlanAt (upd H18 p7 (.tup [.ref l', .str (tx (farT far2))])) p7 l' told' far2 := ⟨upd_same, by rw [upd_ne nl7]; exact PB18.ls⟩
    have e19 : Ext [] H17 (upd H18 p7 (.tup [.ref l', .str (tx (farT far2))])) := e18.trans (Ext.new n7)
    generalize (upd H18 p7 (.tup [.ref l', .str (tx (farT far2))])) = H19 at PN e19 ⊢
    refine ⟨p6, p5, p7, l', _, told', far, far2, rfl, PL17.ext0 e19, PN, okl, ok2, fun H20 e20 => ?_⟩
    rw [below_nar okl ok2]
    refine ⟨rfl, _, rfl, itT (by simp) ?_⟩
    have e1720 := e19.trans e20
    refine ⟨_, rfl, _, rfl, p6, p5, _, far, rfl, PL17.ext0 e1720, okl, fun a2 t2 H21 e21 na2 nt2 RA21 => ?_⟩
    refine cmp ((RA17.ext0 e1720).ext0 e21) RA21 okl okl fun H22 e22 => ?_
    rw [rowEq_refl]
    have eL := (e1720.trans e21).trans e22
    exact q H22 (e0f.trans (eL.sub (by simp))) (R17.ext eL (by simp))
end
end K15
set_option maxHeartbeats 4000000
namespace K15
open PySem PySem.Spec PyProof.Rows L2 Eb
def spRight : Sp := fun vs H Q _ => ∃ r : Addr, vs = [.ref r] ∧ RngAt H r ∧ ∀ H', Ext [r] H H' → Q (.bl true) H'
def spLaw (K : PySem.W.Frag) : Sp := fun vs H Q _ => ∃ (a : Addr) (ns : List Int), vs = [.ref a] ∧ SqL K H a (ns.map V.int) ∧ ns.length ≤ 63 ∧ ∀ H', Q (.bl true) H'
theorem Ext.forget {R S : List Addr} {H H1 H2 : Hp} (a : Ext R H H1) (b : Ext S H1 H2) (n : ∀ x ∈ S, x ∈ R ∨ H x = none) : Ext R H H2 := fun c o nc h => b c o (fun z => by
  rcases n c z with q | q
  · exact nc q
  · rw [q] at h; cases h) (a c o nc h)
/-- a plan that is right stands at v -/
def PlAt (H : Hp) (v : V) : Prop := ∃ p l told far, v = .ref p ∧ RowOk told far ∧ PlanAt H p l told far
theorem PlAt.extR {H H' : Hp} {v : V} {r : Addr} (h : PlAt H v) (hR : RngAt H r) (e : Ext [r] H H') : PlAt H' v := by
  obtain ⟨p, l, told, far, h1, h2, h3⟩ := h
  exact ⟨p, l, told, far, h1, h2, h3.extR hR e⟩
theorem PlAt.ext0 {H H' : Hp} {v : V} (h : PlAt H v) (e : Ext [] H H') : PlAt H' v := by
  obtain ⟨p, l, told, far, h1, h2, h3⟩ := h
  exact ⟨p, l, told, far, h1, h2, h3.ext0 e⟩
section
variable {P : Program} {w : World} {K : PySem.W.Frag} {mg : Str → Option Value} {base : Heap}
theorem ok__law_right (T : Tx.TX K mg) : CalG P w K mg base 9 "_law_right" (spRight) := by
  refine calG (k := 8) T.d__law_right T.g__law_right Tx.sc__law_right (fun _ _ _ _ _ _ us hl => match us, hl with | [_], _ => rfl) ?len ?run
  case len => rintro vs H Q E ⟨r, rfl, _⟩; rfl
  case run =>
    rintro cdv A' outer s H vs Q E hgd hr ⟨r, rfl, hR, q⟩
    refine ⟨_, by exact (pss_cons (ps_par (i := 1) (j := 2) (by rfl) Tx.sc__law_right.nd rfl rfl (by decide) rfl rfl (pa_cons (C8.pe_c (ok__law_plan T) hr (by decide) rfl (pa_cons (pv 0) pa_nil)) (pa_cons (C8.pe_c (ok__law_plan T) hr (by decide) rfl (pa_cons (pv 0) pa_nil)) pa_nil)) (by rfl)) (pss_cons (ps_set (i := 3) Tx.sc__law_right.nd rfl (Or.inl rfl) (pe_j (pe_ifExp (pt_cmpR op_gt (C8.pe_c (ok__law_draw T) hr (by decide) rfl (pa_cons (pv 0) (pa_cons pe_int pa_nil))) pe_int (nomark _)) (C8.pe_c (ok__law_wider T) hr (by decide) rfl (pa_cons (pv 0) (pa_cons (pv 1) pa_nil))) (C8.pe_c (ok__law_plan T) hr (by decide) rfl (pa_cons (pv 0) pa_nil))))) (pss_cons (ps_for PassesOwn.never rfl (pi_list (pe_lst (pa_cons (pe_tup (pa_cons (pv 1) (pa_cons (pv 3) pa_nil))) (pa_cons (pe_tup (pa_cons (pv 3) (pa_cons (pv 2) pa_nil))) (pa_cons (pe_tup (pa_cons (pv 1) (pa_cons (pv 2) pa_nil))) (pa_cons (pe_tup (pa_cons (pv 1) (pa_cons (pv 1) pa_nil))) pa_nil)))))) (pg_tup rfl (pgs_cons (pg_name (i := 4) Tx.sc__law_right.nd rfl (Or.inl rfl)) (pgs_cons (pg_name (i := 5) Tx.sc__law_right.nd rfl (Or.inl rfl)) pgs_nil))) (pss_one (ps_if (pt_j (PW.pt (pw_or (pt_not (pt_val (pe_g (ok__law_pair_right T) hgd hr (by decide) rfl (pa_cons (pv 4) (pa_cons (pv 5) pa_nil))))) (pw_or1 (pt_not (pt_val (C8.pe_c (ok__law_changed_right T) hr (by decide) rfl (pa_cons (pv 0) (pa_cons (pv 4) (pa_cons (pv 5) pa_nil)))))))))) (pss_one (ps_ret pe_bl)) pss_nil))) (pss_one (ps_ret (pe_and (pe_g (ok__law_told_more_right T) hgd hr (by decide) rfl (pa_cons (pv 1) pa_nil)) (pe_one (pe_g (ok__law_told_more_right T) hgd hr (by decide) rfl (pa_cons (pv 3) pa_nil))))))))), ?_⟩
    refine ⟨_, rfl, r, rfl, hR, fun p1 l1 told1 far1 H1 ok1 e1 R1 np1 nl1 P1 => ?_⟩
    refine ⟨_, rfl, r, rfl, R1, fun p3 l3 told3 far3 H2 ok3 e2 R2 np3 nl3 P3 => ?_⟩
    refine ⟨_, _, rfl, ?_⟩
    have P12 := P1.extR R1 e2
    refine ⟨fun v H' => PlAt H' v ∧ Ext [r] H2 H' ∧ RngAt H' r, ⟨_, rfl, r, 3, rfl, R2, by decide, by decide, fun d H3 d0 d1 e3 R3 => ⟨_, _, rfl, rfl, _, rfl, it2 (fun c => ?_) (fun c => ?_)⟩⟩, ?_⟩
    · exact ⟨_, rfl, _, rfl, r, p1, l1, told1, far1, rfl, R3, P12.extR R2 e3, ok1, fun p' l' told' far' H' ok' e' R' P' => ⟨⟨p', l', told', far', rfl, ok', P'⟩, e3.trans e', R'⟩⟩
    · exact ⟨_, rfl, r, rfl, R3, fun p' l' told' far' H' ok' e' R' np' nl' P' => ⟨⟨p', l', told', far', rfl, ok', P'⟩, e3.trans e', R'⟩⟩
    rintro v H3 ⟨⟨p2, l2, told2, far2, rfl, ok2, P2⟩, e3, R3⟩
    have Q1 : PlAt H3 (.ref p1) := ⟨p1, l1, told1, far1, rfl, ok1, P12.extR R2 e3⟩
    have Q2 : PlAt H3 (.ref p2) := ⟨p2, l2, told2, far2, rfl, ok2, P2⟩
    have Q3 : PlAt H3 (.ref p3) := ⟨p3, l3, told3, far3, rfl, ok3, P3.extR R2 e3⟩
    have e03 : Ext [r] H H3 := (e1.trans e2).trans e3
    refine ⟨_, rfl, _, rfl, (by show 2 ≤ sizeLine; decide), fun t1 u1 => ?_⟩
    have w1 : (upd H3 t1 (.tup [V.ref p1, V.ref p2])) t1 = some (.tup [V.ref p1, V.ref p2]) := upd_same
    have x1 : Ext [] H3 (upd H3 t1 (.tup [V.ref p1, V.ref p2])) := Ext.new u1
    generalize (upd H3 t1 (.tup [V.ref p1, V.ref p2])) = G1 at w1 x1 ⊢
    refine ⟨_, rfl, _, rfl, (by show 2 ≤ sizeLine; decide), fun t2 u2 => ?_⟩
    have w2 : (upd G1 t2 (.tup [V.ref p2, V.ref p3])) t2 = some (.tup [V.ref p2, V.ref p3]) := upd_same
    have x2 : Ext [] G1 (upd G1 t2 (.tup [V.ref p2, V.ref p3])) := Ext.new u2
    generalize (upd G1 t2 (.tup [V.ref p2, V.ref p3])) = G2 at w2 x2 ⊢
    refine ⟨_, rfl, _, rfl, (by show 2 ≤ sizeLine; decide), fun t3 u3 => ?_⟩
    have w3 : (upd G2 t3 (.tup [V.ref p1, V.ref p3])) t3 = some (.tup [V.ref p1, V.ref p3]) := upd_same
    have x3 : Ext [] G2 (upd G2 t3 (.tup [V.ref p1, V.ref p3])) := Ext.new u3
    generalize (upd G2 t3 (.tup [V.ref p1, V.ref p3])) = G3 at w3 x3 ⊢
    refine ⟨_, rfl, _, rfl, (by show 2 ≤ sizeLine; decide), fun t4 u4 => ?_⟩
    have w4 : (upd G3 t4 (.tup [V.ref p1, V.ref p1])) t4 = some (.tup [V.ref p1, V.ref p1]) := upd_same
    have x4 : Ext [] G3 (upd G3 t4 (.tup [V.ref p1, V.ref p1])) := Ext.new u4
    generalize (upd G3 t4 (.tup [V.ref p1, V.ref p1])) = G4 at w4 x4 ⊢
    refine ⟨(by show 4 ≤ sizeLine; decide), fun D hD => ?_⟩
    have hDD : (upd G4 D (.lst [V.ref t1, .ref t2, .ref t3, .ref t4])) D = some (.lst [V.ref t1, .ref t2, .ref t3, .ref t4]) := upd_same
    have x5 : Ext [] G4 (upd G4 D (.lst [V.ref t1, .ref t2, .ref t3, .ref t4])) := Ext.new hD
    generalize (upd G4 D (.lst [V.ref t1, .ref t2, .ref t3, .ref t4])) = HD at hDD x5 ⊢
    have xA : Ext [] H3 HD := (((x1.trans x2).trans x3).trans x4).trans x5
    have RD := R3.ext xA (by simp)
    have e0D : Ext [r] H HD := e03.trans (xA.sub (by simp))
    have D1 := Q1.ext0 xA
    have D2 := Q2.ext0 xA
    have D3 := Q3.ext0 xA
    have ent : ∀ x ∈ [V.ref t1, .ref t2, .ref t3, .ref t4], ∃ t a b, x = .ref t ∧ HD t = some (.tup [a, b]) ∧ PlAt HD a ∧ PlAt HD b := by
      intro x hx
      simp only [List.mem_cons, List.not_mem_nil, or_false] at hx
      rcases hx with rfl | rfl | rfl | rfl
      · exact ⟨t1, _, _, rfl, (((x2.trans x3).trans x4).trans x5) t1 _ (by simp) w1, D1, D2⟩
      · exact ⟨t2, _, _, rfl, ((x3.trans x4).trans x5) t2 _ (by simp) w2, D2, D3⟩
      · exact ⟨t3, _, _, rfl, (x4.trans x5) t3 _ (by simp) w3, D1, D3⟩
      · exact ⟨t4, _, _, rfl, x5 t4 _ (by simp) w4, D1, D1⟩
    have nDr : D ≠ r := fun z => by
      obtain ⟨x, y, h1, _⟩ := RD
      rw [← z, hDD] at h1
      cases h1
    refine ⟨D, rfl, ⟨_, SqL.of hDD⟩, for_it (walk_list (K := K) (a := D) (xs := [V.ref t1, .ref t2, .ref t3, .ref t4])) (fun i σ H' => (∃ o1 o2, σ = [some (.ref r), some (.ref p1), some (.ref p3), some (.ref p2), o1, o2]) ∧ Ext [r] HD H' ∧ RngAt H' r) ⟨⟨_, _, rfl⟩, Ext.refl _, RD⟩ (fun i σ H' _ h => SqL.of (h.2.1 D _ (by simpa using nDr) hDD)) ?_ ?_⟩
    · rintro i x σ H4' H4 hi ⟨⟨o1, o2, rfl⟩, e4, R4⟩ ⟨rfl, hx⟩
      obtain ⟨t, a, b, rfl, ht, pa, pb⟩ := ent x (List.mem_of_getElem? hx)
      have ntr : t ≠ r := fun z => by
        obtain ⟨x, y, h1, _⟩ := RD
        rw [← z, ht] at h1
        cases h1
      obtain ⟨p, l, told, far, rfl, ok, PA⟩ := pa.extR RD e4
      obtain ⟨p', l', told', far', rfl, ok', PB⟩ := pb.extR RD e4
      refine ⟨t, _, rfl, SqT.of (e4 t _ (by simpa using ntr) ht), rfl, _, _, rfl, _, _, rfl, rfl, ?_⟩
      refine ⟨fun b' H' => b' = false ∧ Ext [r] H4 H' ∧ RngAt H' r, ?_, ?_⟩
      · refine ⟨_, rfl, _, rfl, p, l, p', l', told, told', far, far', rfl, PA, PB, ok, ok', fun H5 e5 => ⟨_, rfl, itF rfl ?_⟩⟩
        have R5 := R4.ext e5 (by simp)
        refine ⟨_, rfl, _, rfl, _, rfl, r, p, l, p', l', told, told', far, far', rfl, R5, PA.ext0 e5, PB.ext0 e5, ok, ok', fun H6 e6 R6 => ⟨_, rfl, rfl, (e5.sub (by simp)).trans e6, R6⟩⟩
      · rintro b' H5 ⟨rfl, e5, R5⟩
        exact itF rfl ⟨⟨_, _, rfl⟩, e4.trans e5, R5⟩
    · rintro σ H4 ⟨⟨o1, o2, rfl⟩, e4, R4⟩
      obtain ⟨p, l, told, far, z, ok, PA⟩ := D1.extR RD e4
      cases z
      obtain ⟨p', l', told', far', z, ok', PB⟩ := D2.extR RD e4
      cases z
      refine ⟨_, rfl, p1, l, told, far, rfl, PA, ok, fun H5 e5 => ⟨_, rfl, itT rfl ⟨_, rfl, p2, l', told', far', rfl, PB.ext0 e5, ok', fun H6 e6 => ?_⟩⟩⟩
      exact q H6 ((e0D.trans e4).trans ((e5.trans e6).sub (by simp)))
theorem by_law (T : Tx.TX K mg) {f : Addr} : ByG P w K mg base 9 f Tx.N_law "law" (defBody Tx.s_law) (defScope Tx.s_law) (spLaw K) := by
    rintro cdv A' outer s H vs Q E hgd hr ⟨a, ns, rfl, hS, hn, q⟩
    refine ⟨_, by exact (pss_one (ps_ret (pe_callB (cr_all rfl) (by rfl) T.b_all (by decide +kernel) (pa_cons (pe_lc (own := [("_law_k", 1)]) (g := gName 1) (tt := tYes) rfl Tx.sc_law.nd (pi_range1 (by rfl) T.b_range (pa_cons (pe_callB (call_max2 rfl) (by rfl) T.b_max (by decide +kernel) (pa_cons pe_int (pa_cons (pe_callB (call_min2 rfl) (by rfl) T.b_min (by decide +kernel) (pa_cons pe_int (pa_cons (pe_callB call_len_seq (by rfl) T.b_len (by decide +kernel) (pa_cons (pv 0) pa_nil)) pa_nil))) pa_nil))) pa_nil)) (blkOk_by (own := [("_law_k", 1)]) (N := Tx.N_law) (sc := defScope Tx.s_law) (by decide +kernel)) (fun _ _ _ _ _ => (pg_name (i := 1) Tx.sc_law.nd rfl (Or.inl rfl))) (fun _ _ _ _ _ => pts_nil) (fun _ _ _ _ _ => (pe_g (ok__law_right T) hgd hr (by decide) rfl (pa_cons (C8.pe_c (ok__law_rng T) hr (by decide) rfl (pa_cons (pv 0) (pa_cons (pv 1) pa_nil))) pa_nil)))) pa_nil)))), ?_⟩
    have hS1 := hS
    have el : (ns.map V.int).length = ns.length := List.length_map _
    refine ⟨_, rfl, a, _, rfl, .inl hS1, _, _, rfl, _, _, rfl, _, rfl, ?_, ?_, fun D hD => ?_⟩
    · split <;> (try split) <;> omega
    · split <;> (try split) <;> omega
    · refine lc_it walk_range (fun i H' => H' D = some (.lst ((List.replicate i true).map V.bl)) ∧ Ext [] H H') ⟨upd_same, Ext.new hD⟩ (fun _ _ _ _ => trivial) ?_ ?_
      · rintro i x H2' H2 hi ⟨g1, g2⟩ ⟨rfl, rfl⟩
        have hi5 : i < 64 := by
          revert hi
          split <;> (try split) <;> omega
        refine ⟨rfl, _, rfl, _, rfl, a, ns, i, (by show [V.ref a, V.int (0 + (i : Int))] = _; rw [Int.zero_add]), sqL_up g2 hS1, by omega, by omega, fun r H3 nr e3 R3 => ?_⟩
        refine ⟨r, rfl, R3, fun H4 e4 => ?_⟩
        have e24 : Ext [] H2 H4 := Ext.forget (Ext.of e3) e4 fun x hx => by cases List.mem_singleton.mp hx; exact .inr nr
        refine ⟨_, e24 D _ (by simp) g1, ?_, ?_, Ext.mut (g2.trans e24) hD⟩
        · rw [List.length_map, List.length_replicate]
          exact Nat.lt_of_lt_of_le (show i < 1000 by omega) (by decide)
        · rw [upd_same, List.replicate_succ', List.map_append]; rfl
      · rintro H2 ⟨g1, g2⟩
        refine ⟨D, _, rfl, SqL.of g1, ?_⟩
        have : ∀ n, (List.replicate n true).all id = true := fun n => List.all_eq_true.mpr fun b hb => by rw [List.eq_of_mem_replicate hb]; rfl
        rw [this]
        exact q H2
end
end K15
set_option maxHeartbeats 0
open PySem PySem.W PySem.Calls PyProof.Rows
theorem PySem.Challenge.cw_everysettles_k14_whole_rows_in_order_holds : PySem.Challenge.rw_everysettles_k14_whole_rows_in_order.Holds := by
  w_on; o_law
  refine HandSHeadRun.head_any (r := Hd.R) (q := view Hd.R.prog [45]) (H := Hd.hk) (ob := Hd.ob) (M := 20000) (loose := Hd.loose) (d := HandSHeadRun.topDef Hd.R.prog 45) (kwd := []) Hd.ob_eq
    (by kernel_rfl) (fun s => by kernel_rfl) Hd.run (by kernel_rfl) (by kernel_rfl) (by kernel_rfl) (by rfl) (by first | assumption | decide +kernel) (by decide +kernel) ⟨rfl, rfl, rfl, rfl, rfl, by decide +kernel⟩ ?hw ?hc
  case hw => w_witness2
  case hc =>
    refine Eb.walkG (l := PySem.Challenge.rw_everysettles_k14_whole_rows_in_order) (n := 63) (k := 10) (x := "_law_script") rfl (by decide) (by kernel_rfl) ⟨rfl, by decide, by decide⟩ ?F
    intro w mg fa h Y G hmg0
    obtain ⟨K, KX, c⟩ := Y
    have hmg : mg ("law" : PySem.Str) = some (.ref fa) := by
      have e : (HandSHeadRun.topDef Hd.R.prog 45).name = ("law" : PySem.Str) := by kernel_rfl
      rw [← e]
      exact hmg0
    have T := Tx.tx_of KX G c
    obtain ⟨fd, F⟩ := T.d_law
    cases hmg.symm.trans T.g_law
    have b := L2.FunD.bindsA (ps := ["_law_script"]) F fun _ _ _ _ _ _ us hl => match us, hl with | [_], _ => rfl
    refine ⟨K, fd, K15.spLaw K, KX, fun s v => b s [v] rfl, fun H a ns hl _ _ hS => ⟨a, ns, rfl, hS, hl, fun _ => rfl⟩, fun base => Eb.okG F Tx.sc_law ?_ (K15.by_law T)⟩
    rintro vs H Q E ⟨a, ns, rfl, _⟩
    rfl
