import PyProof.Rows.All
import Wide.All
import OpenK.AllK
import Wide.FinOn
import HandS.ForMost
import HandS.WideBits
import HandS.EndBits
import HandS.Defaults
import HandS.MakeKw
import HandS.Property
import HandS.IsInst
import HandS.Codes
import HandS.Flow
import HandS.RaiseMore
import HandS.Head0
import HandS.Head1
import HandS.Head2
import HandS.HeadEnd
import HandS.HeadHook1
import HandS.HeadHook2
import HandS.Walk
import HandS.Style
import KE.GoesMore
import KE.GoesEnum
import KE.KOpsOwn
import PySem.Challenge.RW_everysettles_k15_whole_faults_of_rows
set_option Elab.async false
set_option linter.all false
set_option maxRecDepth 100000
set_option maxHeartbeats 4000000
namespace Eb
open PySem PySem.Spec PyProof.Rows L2

/-! ## a def's promise where nothing is being shown (no repr runs around) -/
structure FnG (P : Program) (w : World) (K : PySem.W.Frag) (mg : Str → Option Value) (base : Heap) (k : Nat) (f : Addr) (fd : FuncData) (ps : List Str) (sp : Sp) : Prop where
  len : ∀ vs H Q E, sp vs H Q E → vs.length = ps.length
  run : ∀ (A : Around) (outer : List Env) (s : Shared) (H : Hp) (args : Args) (us : List Value) (vs : List V) (Q : VK) (E : XK),
    A.guards = some [] → Room k A → Env0 P w K mg base A outer s H → BindsTo s fd args (ps.zip us) → Vals vs us → sp vs H Q E →
      codeAny (model P w) A (.call (.ref f) args) (CR CX0 outer P w H s Q E) s
section
variable {P : Program} {w : World} {K : PySem.W.Frag} {mg : Str → Option Value} {base : Heap} {k : Nat} {f : Addr} {fd : FuncData} {ps : List Str} {sp : Sp}
theorem FnG.of (F : FnOk P w K mg base CX0 k f fd ps sp) : FnG P w K mg base k f fd ps sp :=
  ⟨F.len, fun A o s H a us vs Q E _ => F.run A o s H a us vs Q E⟩
/-- by the body -/
theorem okG {x qual : Str} {params : Arguments} {body : List Stmt} {scope : Scope} {dvs : List V} {kws : List (Str × V)} {N : List Str}
    (F : FunD K x qual params body scope dvs kws f fd) (S : FnScope N ps scope) (len : ∀ vs H Q E, sp vs H Q E → vs.length = ps.length)
    (hb : ∀ (cdv : Value) (A : Around) (outer : List Env) (s : Shared) (H : Hp) (vs : List V) (Q : VK) (E : XK),
      (A.deeper (envOfC qual scope s.heap.objs.size f cdv)).guards = some [] → Room k (A.deeper (envOfC qual scope s.heap.objs.size f cdv)) → sp vs H Q E →
      ∃ t, PSs (cxOf CX0 P w K mg base N qual scope f cdv A outer s H E).nox body t ∧ t { nx := fun _ H' => Q .non H', rt := Q } (start N vs) H) :
    FnG P w K mg base (k + 1) f fd ps sp := by
  refine ⟨len, fun A outer s H args us vs Q E hg hr e0 hbd r hsp => ?_⟩
  obtain ⟨oc, od, dV, kV, doc, pm, an, cdv, ct, osl, rfl, lk, hcd, _, _⟩ := F.ex
  have hl := len _ _ _ _ hsp
  have KX : K.In s.heap := e0.mod.kin.keeps fun b o e => (e0.bs b o e).1
  have lim : s.heap.NoLimit := e0.mod.nolimit.keeps fun b o e => (e0.bs b o e).1
  refine codeAny_call_function hr.depth (KX _ _ lk) rfl S.co S.gen rfl (PySem.W.codeRec_of KX hcd) (hbd _ _ _ _ ?_)
  refine wpAny_newFunctionEnv_cells S.kind (fun q hq => ?_) fun env he s1 x => ?_
  · obtain ⟨n, v⟩ := q
    rcases S.par n (List.of_mem_zip hq).1 with z | z
    · exact .inl z
    · exact .inr ⟨z, PySem.W.cellsFrom_some _ _ _ (.inl z)⟩
  · subst he
    refine ⟨lim.keeps x.toInCall.keep, codeAny_func ?_⟩
    obtain ⟨t, ht, hq⟩ := hb cdv A outer s H vs Q E hg (hr.deeper _) hsp
    have I : Inv (cxOf CX0 P w K mg base N qual scope f cdv A outer s H E) [] (start N vs) H s1 := inv_start S hr.hd e0 hl r x
    refine wpAny_mono (ht.nox.run [] s1 (start N vs) H _ I hq) (fun fl s' hs => ?_) fun e s' hs => hs
    cases fl with
    | ret u => obtain ⟨v, σ', H', J, rv, q⟩ := hs; exact ⟨v, H', J.os, J.bare, J.base, J.hok, rv, q⟩
    | next => obtain ⟨σ', H', J, q⟩ := hs; exact ⟨V.non, H', J.os, J.bare, J.base, J.hok, rfl, q⟩
    | brk => obtain ⟨_, _, _, q⟩ := hs; exact False.elim q
    | cont => obtain ⟨_, _, _, q⟩ := hs; exact False.elim q
end
section
variable {X : Cx} {k : Nat} {f : Addr} {fd : FuncData} {ps : List Str} {sp : Sp} {dvs : List V} {ds : List Value} {x : Str} {p pos : Pos} {e : Expr} {es : List Expr} {t : TA}
theorem runG {pins : List (Addr × Obj)} {σ : L2.St} {H : Hp} {s : Shared} {Q : VK} {us : List Value} {vs : List V} (F : FnG X.prog X.w X.K X.mg X.base k f fd ps sp) (g : X.A.guards = some []) (hr : Room k X.A) (hb : Binds X.K fd ps ds) (hd : Vals dvs ds)
    (I : Inv X pins σ H s) (r : Vals vs us) (h : sp (vs ++ dvs) H Q E0) : wpAny (model X.prog X.w) X.A (call (.ref f) us) (EP X pins σ Q) X.xe s := by
  have r2 : Vals (vs ++ dvs) (us ++ ds) := r.append hd
  have hl : (us ++ ds).length = ps.length := r2.length ▸ F.len _ _ _ _ h
  refine wpAny_call (codeAny_mono (F.run X.A X.stack s H ⟨us, []⟩ (us ++ ds) (vs ++ dvs) Q E0 g hr I.env0 (hb s us I.kIn hl) r2 h) fun r s' hq => ?_)
  cases r with
  | error e => exact False.elim hq
  | ok fl => cases fl <;> first | exact I.after hq | exact False.elim hq
/-- f(..) by its promise, nothing being shown -/
theorem pe_callG (F : FnG X.prog X.w X.K X.mg X.base k f fd ps sp) (g : X.A.guards = some []) (hr : Room k X.A) (hg : Gl X x) (hm : X.mg x = some (.ref f)) (hk : PySem.W.keepIn X.K (.ref f) = true) (hb : Binds X.K fd ps ds) (hd : Vals dvs ds)
    (ha : PA X (e :: es) t) (hdb : (x == ("__debug__" : Str)) = false := by decide) (he : starEach (e :: es) X.env = (false, eval e X.env) :: starEach es X.env := by rfl) (hpl : (backTo pos (starEach es X.env)).any (·.1) = false := by rfl) :
    PE X (.Call (.Name x p) (e :: es) [] pos) (tCall sp dvs E0 t) := by
  refine ⟨fun pins s σ H Q I h => wpAny_Call_Name_kw (ld_glob I hg hm ?_ hdb)⟩
  exact PySem.W.callWith_K (h₀ := X.base) I.ok.mod.kin hk (thn (ha.run pos pins s σ H _ I h) fun us s1 ⟨vs, H1, I1, r, q⟩ => ⟨I1.kIn, runG F g hr hb hd I1 r q⟩) he hpl
/-- f() likewise -/
theorem pe_callG0 (F : FnG X.prog X.w X.K X.mg X.base k f fd ps sp) (g : X.A.guards = some []) (hr : Room k X.A) (hg : Gl X x) (hm : X.mg x = some (.ref f)) (hk : PySem.W.keepIn X.K (.ref f) = true) (hb : Binds X.K fd ps ds) (hd : Vals dvs ds)
    (hdb : (x == ("__debug__" : Str)) = false := by decide) : PE X (.Call (.Name x p) [] [] pos) (tCall sp dvs E0 tNil) :=
  ⟨fun pins s σ H Q I h => wpAny_Call_Name_kw (ld_glob I hg hm (PySem.W.callWith_K0 I.kIn hk (runG (us := []) F g hr hb hd I .nil h)) hdb)⟩
end
end Eb
set_option maxHeartbeats 4000000
namespace Eb
open PySem PySem.Spec PyProof.Rows L2

/-! ## plain data on the heap: the addresses in R are not among its own -/
mutual
def Dat (R : List Addr) (H : Hp) : PyData → V → Prop
  | .none, v => v = .non
  | .bool b, v => v = .bl b
  | .int i, v => v = .int i
  | .str x, v => v = .str x
  | .list xs, v => ∃ a vs, v = .ref a ∧ a ∉ R ∧ H a = some (.lst vs) ∧ Dats R H xs vs
  | .tuple xs, v => ∃ a vs, v = .ref a ∧ a ∉ R ∧ H a = some (.tup vs) ∧ Dats R H xs vs
  | .dict _, _ => False
def Dats (R : List Addr) (H : Hp) : List PyData → List V → Prop
  | [], vs => vs = []
  | d :: ds, vs => ∃ v r, vs = v :: r ∧ Dat R H d v ∧ Dats R H ds r
end
/-- all that stands outside R stays -/
def Ext (R : List Addr) (H H' : Hp) : Prop := ∀ a o, a ∉ R → H a = some o → H' a = some o
theorem Ext.refl {R : List Addr} (H : Hp) : Ext R H H := fun _ _ _ h => h
theorem Ext.trans {R : List Addr} {H H1 H2 : Hp} (a : Ext R H H1) (b : Ext R H1 H2) : Ext R H H2 := fun c o n h => b c o n (a c o n h)
theorem Ext.new {R : List Addr} {H : Hp} {p : Addr} {o : HO} (h : H p = none) : Ext R H (upd H p o) := fun a u _ e => by
  rw [upd_ne (ne_of_none e h)]; exact e
theorem Ext.put {R : List Addr} {H : Hp} {p : Addr} {o : HO} (h : p ∈ R) : Ext R H (upd H p o) := fun a u n e => by
  have ne : a ≠ p := fun z => n (by rw [z]; exact h)
  rw [upd_ne ne]; exact e
theorem Ext.mut {R : List Addr} {H H' : Hp} {p : Addr} {o : HO} (e : Ext R H H') (h : H p = none) : Ext R H (upd H' p o) := fun a u n q => by
  have ne : a ≠ p := ne_of_none q h
  rw [upd_ne ne]; exact e a u n q
theorem Ext.back {R : List Addr} {H H' : Hp} {p : Addr} (e : Ext R H H') (n : p ∉ R) (h : H' p = none) : H p = none := by
  cases q : H p with
  | none => rfl
  | some o => rw [e p o n q] at h; cases h
theorem Ext.free {H H' : Hp} {p : Addr} (e : Ext [] H H') (h : H' p = none) : H p = none := e.back (by simp) h
theorem Ext.made {R : List Addr} {H H' : Hp} {x dx : Addr} {o1 o2 : HO} (nx : H x = none) (nd : H dx = none) (e : Ext [x] (upd (upd H dx o1) x o2) H') : Ext R H H' := fun a u _ q => by
  have n1 : a ≠ x := ne_of_none q nx
  have n2 : a ≠ dx := ne_of_none q nd
  exact e a u (by simpa using n1) (by rw [upd_ne n1, upd_ne n2]; exact q)
theorem Ext.sub {R S : List Addr} {H H' : Hp} (e : Ext R H H') (h : ∀ a, a ∈ R → a ∈ S) : Ext S H H' := fun a o n q => e a o (fun z => n (h a z)) q
theorem Ext.of {R : List Addr} {H H' : Hp} (e : Same H H') : Ext R H H' := fun a o _ q => e a o q
theorem Ext.same {H H' : Hp} (e : Ext [] H H') : Same H H' := fun a o q => e a o (by simp) q

mutual
theorem Dat.ext {R : List Addr} {H H' : Hp} (e : Ext R H H') : ∀ {d : PyData} {v : V}, Dat R H d v → Dat R H' d v
  | .none, v, h => h
  | .bool b, v, h => h
  | .int i, v, h => h
  | .str x, v, h => h
  | .list xs, v, h => by
    unfold Dat at h ⊢
    obtain ⟨a, vs, h1, h2, h3, h4⟩ := h
    exact ⟨a, vs, h1, h2, e a _ h2 h3, Dats.ext e h4⟩
  | .tuple xs, v, h => by
    unfold Dat at h ⊢
    obtain ⟨a, vs, h1, h2, h3, h4⟩ := h
    exact ⟨a, vs, h1, h2, e a _ h2 h3, Dats.ext e h4⟩
  | .dict kvs, v, h => h
theorem Dats.ext {R : List Addr} {H H' : Hp} (e : Ext R H H') : ∀ {ds : List PyData} {vs : List V}, Dats R H ds vs → Dats R H' ds vs
  | [], vs, h => h
  | d :: ds, vs, h => by
    unfold Dats at h ⊢
    obtain ⟨v, r, h1, h2, h3⟩ := h
    exact ⟨v, r, h1, Dat.ext e h2, Dats.ext e h3⟩
end
mutual
theorem Dat.keep {R S : List Addr} {H : Hp} (n : ∀ a, a ∈ S → a ∈ R ∨ H a = none ∨ ∃ C dx fs, H a = some (.ins C dx fs)) : ∀ {d : PyData} {v : V}, Dat R H d v → Dat S H d v
  | .none, v, h => h
  | .bool b, v, h => h
  | .int i, v, h => h
  | .str x, v, h => h
  | .list xs, v, h => by
    unfold Dat at h ⊢
    obtain ⟨a, vs, h1, h2, h3, h4⟩ := h
    refine ⟨a, vs, h1, fun z => ?_, h3, Dats.keep n h4⟩
    rcases n a z with q | q | ⟨_, _, _, q⟩
    · exact h2 q
    · rw [q] at h3; cases h3
    · rw [q] at h3; cases h3
  | .tuple xs, v, h => by
    unfold Dat at h ⊢
    obtain ⟨a, vs, h1, h2, h3, h4⟩ := h
    refine ⟨a, vs, h1, fun z => ?_, h3, Dats.keep n h4⟩
    rcases n a z with q | q | ⟨_, _, _, q⟩
    · exact h2 q
    · rw [q] at h3; cases h3
    · rw [q] at h3; cases h3
  | .dict kvs, v, h => h
theorem Dats.keep {R S : List Addr} {H : Hp} (n : ∀ a, a ∈ S → a ∈ R ∨ H a = none ∨ ∃ C dx fs, H a = some (.ins C dx fs)) : ∀ {ds : List PyData} {vs : List V}, Dats R H ds vs → Dats S H ds vs
  | [], vs, h => h
  | d :: ds, vs, h => by
    unfold Dats at h ⊢
    obtain ⟨v, r, h1, h2, h3⟩ := h
    exact ⟨v, r, h1, Dat.keep n h2, Dats.keep n h3⟩
end
theorem Dat.sub {R S : List Addr} {H : Hp} (n : ∀ a, a ∈ S → a ∈ R) {d : PyData} {v : V} (h : Dat R H d v) : Dat S H d v := Dat.keep (fun a z => .inl (n a z)) h
theorem Dats.sub {R S : List Addr} {H : Hp} (n : ∀ a, a ∈ S → a ∈ R) {d : List PyData} {v : List V} (h : Dats R H d v) : Dats S H d v := Dats.keep (fun a z => .inl (n a z)) h
theorem dat_str {R : List Addr} {H : Hp} {x : Str} {v : V} : Dat R H (.str x) v ↔ v = .str x := by simp only [Dat]
theorem dat_int {R : List Addr} {H : Hp} {x : Int} {v : V} : Dat R H (.int x) v ↔ v = .int x := by simp only [Dat]
theorem dat_bool {R : List Addr} {H : Hp} {x : Bool} {v : V} : Dat R H (.bool x) v ↔ v = .bl x := by simp only [Dat]
theorem dat_none {R : List Addr} {H : Hp} {v : V} : Dat R H .none v ↔ v = .non := by simp only [Dat]
theorem dat_list {R : List Addr} {H : Hp} {xs : List PyData} {v : V} : Dat R H (.list xs) v ↔ ∃ a vs, v = .ref a ∧ a ∉ R ∧ H a = some (.lst vs) ∧ Dats R H xs vs := by simp only [Dat]
theorem dat_tup {R : List Addr} {H : Hp} {xs : List PyData} {v : V} : Dat R H (.tuple xs) v ↔ ∃ a vs, v = .ref a ∧ a ∉ R ∧ H a = some (.tup vs) ∧ Dats R H xs vs := by simp only [Dat]
theorem dats_nil {R : List Addr} {H : Hp} {vs : List V} : Dats R H [] vs ↔ vs = [] := by simp only [Dats]
theorem dats_cons {R : List Addr} {H : Hp} {d : PyData} {ds : List PyData} {vs : List V} : Dats R H (d :: ds) vs ↔ ∃ v r, vs = v :: r ∧ Dat R H d v ∧ Dats R H ds r := by simp only [Dats]
theorem Dats.length {R : List Addr} {H : Hp} : ∀ {ds : List PyData} {vs : List V}, Dats R H ds vs → vs.length = ds.length
  | [], vs, h => by rw [dats_nil.mp h]; rfl
  | d :: ds, vs, h => by
    obtain ⟨v, r, rfl, _, h2⟩ := dats_cons.mp h
    show r.length + 1 = ds.length + 1
    rw [h2.length]
theorem Dats.get {R : List Addr} {H : Hp} : ∀ {ds : List PyData} {vs : List V} {i : Nat} {d : PyData}, Dats R H ds vs → ds[i]? = some d → ∃ v, vs[i]? = some v ∧ Dat R H d v
  | [], vs, i, d, h, e => by simp at e
  | d :: ds, vs, 0, d', h, e => by
    obtain ⟨v, r, rfl, h1, _⟩ := dats_cons.mp h
    cases (show d = d' from by simpa using e)
    exact ⟨v, rfl, h1⟩
  | d :: ds, vs, i + 1, d', h, e => by
    obtain ⟨v, r, rfl, _, h2⟩ := dats_cons.mp h
    obtain ⟨u, e1, e2⟩ := Dats.get (i := i) h2 (by simpa using e)
    exact ⟨u, by simpa using e1, e2⟩
theorem Dats.strs {R : List Addr} {H : Hp} : ∀ {xs : List Str} {vs : List V}, Dats R H (xs.map PyData.str) vs ↔ vs = xs.map V.str
  | [], vs => by show Dats R H [] vs ↔ vs = []; exact dats_nil
  | x :: xs, vs => by
    show Dats R H (PyData.str x :: xs.map PyData.str) vs ↔ vs = V.str x :: xs.map V.str
    rw [dats_cons]
    constructor
    · rintro ⟨v, r, rfl, h1, h2⟩
      rw [dat_str.mp h1, Dats.strs.mp h2]
    · rintro rfl
      exact ⟨_, _, rfl, dat_str.mpr rfl, Dats.strs.mpr rfl⟩
theorem Dats.bools {R : List Addr} {H : Hp} : ∀ {xs : List Bool} {vs : List V}, Dats R H (xs.map PyData.bool) vs ↔ vs = xs.map V.bl
  | [], vs => by show Dats R H [] vs ↔ vs = []; exact dats_nil
  | x :: xs, vs => by
    show Dats R H (PyData.bool x :: xs.map PyData.bool) vs ↔ vs = V.bl x :: xs.map V.bl
    rw [dats_cons]
    constructor
    · rintro ⟨v, r, rfl, h1, h2⟩
      rw [dat_bool.mp h1, Dats.bools.mp h2]
    · rintro rfl
      exact ⟨_, _, rfl, dat_bool.mpr rfl, Dats.bools.mpr rfl⟩

/-! ## repr of plain data -/
mutual
theorem reads_of {P : Program} {w : World} {R : List Addr} {H : Hp} {h : Heap} (ok : HOk P w H h) : ∀ {d : PyData} {v : V} {u : Value}, Dat R H d v → RelV v u → ∃ as, Reads h u d as
  | .none, v, u, hd, r => by cases dat_none.mp hd; cases (show u = Value.none from r); exact ⟨_, .none⟩
  | .bool b, v, u, hd, r => by cases dat_bool.mp hd; cases (show u = Value.bool b from r); exact ⟨_, .bool b⟩
  | .int i, v, u, hd, r => by cases dat_int.mp hd; obtain ⟨t, rfl⟩ := r; exact ⟨_, .int i t⟩
  | .str x, v, u, hd, r => by cases dat_str.mp hd; obtain ⟨t, rfl⟩ := r; exact ⟨_, .str x t⟩
  | .list xs, v, u, hd, r => by
    obtain ⟨a, vs, rfl, _, ha, h4⟩ := dat_list.mp hd
    cases (show u = Value.ref a from r)
    obtain ⟨_, its, n, rv, e⟩ := (show ObjOk P w H h a (.lst vs) from ok a _ ha)
    obtain ⟨as, q⟩ := readsAll_of ok h4 rv
    exact ⟨_, .list e rfl rfl (by simpa using q)⟩
  | .tuple xs, v, u, hd, r => by
    obtain ⟨a, vs, rfl, _, ha, h4⟩ := dat_tup.mp hd
    cases (show u = Value.ref a from r)
    obtain ⟨_, its, rv, o, e, hc, n, hdt⟩ := (show ObjOk P w H h a (.tup vs) from ok a _ ha)
    obtain ⟨as, q⟩ := readsAll_of ok h4 rv
    exact ⟨_, .tuple e hc hdt (by simpa using q)⟩
  | .dict kvs, v, u, hd, r => by unfold Dat at hd; exact hd.elim
theorem readsAll_of {P : Program} {w : World} {R : List Addr} {H : Hp} {h : Heap} (ok : HOk P w H h) : ∀ {ds : List PyData} {vs : List V} {us : List Value}, Dats R H ds vs → Vals vs us → ∃ as, ReadsAll h us ds as
  | [], vs, us, hd, r => by
    cases dats_nil.mp hd
    cases r
    exact ⟨_, .nil⟩
  | d :: ds, vs, us, hd, r => by
    obtain ⟨v, r', rfl, h1, h2⟩ := dats_cons.mp hd
    cases r with
    | cons r1 r2 =>
      obtain ⟨as, q1⟩ := reads_of ok h1 r1
      obtain ⟨bs, q2⟩ := readsAll_of ok h2 r2
      exact ⟨_, .cons q1 q2⟩
end
/-- data that may be shown -/
structure Showy (d : PyData) : Prop where
  sh : d.showable = true
  nd : d.hasDict = false
  sz : d.shown.length ≤ sizeLine
  dp : d.depth ≤ 100
def rRepr : List V → Hp → VK → Prop := fun xs H Q => ∃ (a : Addr) (R : List Addr) (d : PyData), xs = [.ref a] ∧ Dat R H d (.ref a) ∧ Showy d ∧ Q (.str d.shown) H
theorem call_reprD {X : Cx} {k : Nat} (g : X.A.guards = some []) (hr : Room k X.A) : CallR X (.builtin "repr") rRepr := by
  intro pins s σ H xs us Q I r h
  obtain ⟨a, R, d, rfl, hd, S, q⟩ := h
  obtain ⟨u, rfl, e⟩ := vals1 r
  cases (show u = Value.ref a from e)
  obtain ⟨as, rd⟩ := reads_of I.hok hd (u := .ref a) rfl
  have un := hr.un
  refine repr_of_reads' rd S.sh (fun z => by rw [S.nd] at z; cases z) g (by have := S.dp; omega) (fun _ _ e => e) (fun h' t tk hk => ?_) S.sz
  exact ⟨.str d.shown, H, I.kept hk, ⟨t, rfl⟩, q⟩
end Eb
set_option maxHeartbeats 4000000
namespace Eb
open PySem PySem.Spec PyProof.Rows L2

/-! ## the law's end, nothing being shown ahead of it -/
/-- the law's call at an abstract heap H that tracks the script alone, or nothing -/
theorem endG {P : Program} {w : World} {K : PySem.W.Frag} {mg mb : Str → Option Value} {k : Nat} {fa a : Addr} {fd : FuncData} {x : Str} {sp : Sp} {s₁ : Shared} {vs : List Value} (H : Hp)
    (KX : K.In s₁.heap) (hns : s₁.heap.Ns mainGlobals mg) (hb : s₁.heap.Ns builtinsNs mb) (hbb : ∀ x : Str, x ≠ "__name__" → mb x = bootBuiltins x) (hlim : s₁.heap.NoLimit) (hg : s₁.gens = #[])
    (ha : s₁.heap.get? a = some { cls := .type "list", data := .seq vs.toArray }) (hr : Room k callerA) (F : ∀ base : Heap, FnG P w K mg base k fa fd [x] sp) (bd : ∀ (s : Shared) (u : Value), BindsTo s fd ⟨[u], []⟩ [(x, u)])
    (hsp : sp [.ref a] H (fun v _ => v = .bl true) fun _ _ _ => False) (hO : Only H) (hok : HOk P w H s₁.heap) (hA : ∀ b, H b ≠ none → b = a) (hK : H a ≠ none → K.lookup a = none) :
    codeAny (model P w) callerA (.call (.ref fa) ⟨[.ref a], []⟩) (fun r s' => r = .ok (.ret (.bool true)) ∧ OldK s₁.heap s'.heap ∧ s'.os = s₁.os ∧ AllBare s'.gens) s₁ := by
  have untr : ∀ {b : Addr}, b ≠ a → H b = none := fun {b} n => Classical.byContradiction fun z => n (hA b z)
  have dk : ∀ {b : Addr} {o : Obj} {es : Array DictEntry} {ep : Nat}, s₁.heap.get? b = some o → o.data = .dict es ep → (hidT s₁.heap H).get? b = some o := fun {b o es ep} e d => by
    refine hidT_get e (untr fun z => ?_)
    rw [z, ha] at e
    cases e
    cases (show Data.seq vs.toArray _ = Data.dict es ep from d)
  have nk : ∀ {b : Addr} {m : Str → Option Value}, s₁.heap.Ns b m → (hidT s₁.heap H).Ns b m := fun {b m} ⟨o, es, ep, e, d, r⟩ => ⟨o, es, ep, dk e d, d, r⟩
  have kb : K.In (hidT s₁.heap H) := fun b o e => hidT_get (KX b o e) (Classical.byContradiction fun z => by
    have q := hA b z
    rw [q] at e z
    rw [hK z] at e
    cases e)
  have mo : Mod K mg (hidT s₁.heap H) := ⟨kb, nk hns, ⟨mb, nk hb, hbb⟩, let ⟨mc, h1, h2⟩ := hlim; ⟨mc, nk h1, h2⟩⟩
  have e0 : Env0 P w K mg (hidT s₁.heap H) callerA [] s₁ H := ⟨rfl, mo, fun b o e => of_hidT e, Nat.le_of_eq (hidT_size _ _), trivial, fun b z => (List.not_mem_nil (show b ∈ ([] : List Addr) from z)).elim, hok, .of_eq hg⟩
  refine codeAny_mono ((F _).run callerA [] s₁ H ⟨[.ref a], []⟩ [.ref a] [.ref a] _ _ rfl hr e0 (bd s₁ (.ref a)) (.cons rfl .nil) hsp) fun r s' h => ?_
  cases r with
  | error e => exact False.elim h
  | ok fl =>
    cases fl with
    | ret u =>
      obtain ⟨v, H', os, bare, un, hok', r', q⟩ := h
      cases (show v = .bl true from q)
      cases (show u = Value.bool true from r')
      refine ⟨rfl, OldK.of_keep fun b o e => ?_, os, bare⟩
      rcases hO b with z | ⟨ob, xs, z⟩
      · exact un.keep b o e z (fun m => List.not_mem_nil (show b ∈ ([] : List Addr) from m)) (fun m => List.not_mem_nil m)
      · obtain ⟨e1, _⟩ := hok b _ z
        obtain ⟨e2, _⟩ := hok' b _ (un.frzs b ob _ z)
        rw [e] at e1
        cases e1
        exact e2
    | _ => exact False.elim h
/-- what the law's def must promise; the script's bits are told -/
theorem walkG {l : PySem.W.OpenLaw} {n k : Nat} {q : Program} {loose : List Str} {XP : (Str → Option Value) → Heap → Prop} {YP : World → Heap → Prop} {d : DefRec} {x : Str}
    (hn : l.most = some n) (hn2 : n ≤ sizeLine) (hdf : d.params.defaults = []) (hr : Room k callerA)
    (F : ∀ (w : World) (mg : Str → Option Value) (fa : Addr) (h : Heap), YP w h → h.Ns mainGlobals mg → mg d.name = some (.ref fa) →
      ∃ (K : PySem.W.Frag) (fd : FuncData) (sp : Sp), K.In h ∧ (∀ (s : Shared) (u : Value), BindsTo s fd ⟨[u], []⟩ [(x, u)]) ∧
        (∀ (H : Hp) (a : Addr) (ns : List Int), ns.length ≤ n → (∀ z ∈ ns, Builtin.Int.intBits z ≤ 1048576) → Only H → SqL K H a (ns.map V.int) → sp [.ref a] H (fun v _ => v = .bl true) fun _ _ _ => False) ∧
        ∀ base : Heap, FnG l.prog w K mg base k fa fd [x] sp) :
    PySem.W.WalkO q loose XP YP l.row.toRowW d [] (fun f vs => PySem.call f vs) := by
  refine Att.attach_callB hn hdf fun w s₀ s₁ mg mb fa o pm cd doc a vs ns G Y ho hd hcd hmg hobj hints hlen hbits hg => ?_
  obtain ⟨K, fd, sp, KX, bd, hsp, hF⟩ := F w mg fa _ Y G.T.g hmg
  have rv := vals_ints hints
  have lv := hints.length
  have lz : ns.length ≤ sizeLine := Nat.le_trans hlen hn2
  cases hk : K.lookup a with
  | some ob =>
    have e := KX a ob hk
    rw [hobj] at e
    cases e
    refine endG (fun _ => none) KX G.T.g G.T.b G.T.builtins G.T.nolimit hg hobj hr hF bd (hsp _ a ns hlen hbits (fun _ => .inl rfl) (.inr ⟨_, vs.toArray, _, hk, rfl, rfl, rfl, ?_, ?_⟩)) (fun _ => .inl rfl) (fun b u z => nomatch z) (fun b z => absurd rfl z) (fun z => absurd rfl z)
    · rw [List.size_toArray, lv]; exact lz
    · simpa using rv
  | none =>
    have at_a : ∀ b, (if b = a then some (HO.frz { cls := .type "list", data := .seq vs.toArray } (.lst (ns.map V.int))) else none) ≠ none → b = a := fun b z => Classical.byContradiction fun c => z (if_neg c)
    have on : Only (fun b => if b = a then some (HO.frz { cls := .type "list", data := .seq vs.toArray } (.lst (ns.map V.int))) else none) := fun b => by
      by_cases c : b = a
      · exact .inr ⟨_, _, if_pos c⟩
      · exact .inl (if_neg c)
    refine endG _ KX G.T.g G.T.b G.T.builtins G.T.nolimit hg hobj hr hF bd (hsp _ a ns hlen hbits on (.inl (.inr ⟨_, if_pos rfl⟩))) on (fun b u z => ?_) at_a (fun _ => hk)
    by_cases c : b = a
    · cases (if_pos c).symm.trans z
      subst c
      exact ⟨hobj, by rw [List.length_map]; exact lz, vs, _, rv, hobj⟩
    · cases (if_neg c).symm.trans z

/-! ## a def that may be called by its name -/
structure CalG (P : Program) (w : World) (K : PySem.W.Frag) (mg : Str → Option Value) (base : Heap) (k : Nat) (x : Str) (sp : Sp) : Prop where
  ex : ∃ (f : Addr) (fd : FuncData) (ps : List Str), FnG P w K mg base k f fd ps sp ∧ mg x = some (.ref f) ∧ PySem.W.keepIn K (.ref f) = true ∧ Binds K fd ps []
section
variable {X : Cx} {k j : Nat} {x : Str} {sp : Sp} {p pos : Pos} {e : Expr} {es : List Expr} {t : TA}
theorem pe_g (c : CalG X.prog X.w X.K X.mg X.base k x sp) (g : X.A.guards = some []) (hr : Room j X.A) (hk : k ≤ j) (hg : Gl X x) (ha : PA X (e :: es) t)
    (hdb : (x == ("__debug__" : Str)) = false := by decide) (he : starEach (e :: es) X.env = (false, eval e X.env) :: starEach es X.env := by rfl) (hpl : (backTo pos (starEach es X.env)).any (·.1) = false := by rfl) :
    PE X (.Call (.Name x p) (e :: es) [] pos) (tCall sp [] E0 t) := by
  obtain ⟨f, fd, ps, F, hm, kp, b⟩ := c.ex
  exact pe_callG F g (hr.mono hk) hg hm kp b .nil ha hdb he hpl
theorem pe_g0 (c : CalG X.prog X.w X.K X.mg X.base k x sp) (g : X.A.guards = some []) (hr : Room j X.A) (hk : k ≤ j) (hg : Gl X x)
    (hdb : (x == ("__debug__" : Str)) = false := by decide) : PE X (.Call (.Name x p) [] [] pos) (tCall sp [] E0 tNil) := by
  obtain ⟨f, fd, ps, F, hm, kp, b⟩ := c.ex
  exact pe_callG0 F g (hr.mono hk) hg hm kp b .nil hdb
end

/-! ## what the head tells: looks at the written part, defs -/
def obsX (cs : List (PySem.W.Frag → Bool)) (fn : List He.DefD) (K : PySem.W.Frag) : He.AlD := ((cs.all fun c => c K) && fn.all fun d => d.ok K, fn.map fun d => He.fnW K d.at_)
def SaysX (cs : List (PySem.W.Frag → Bool)) (fn : List He.DefD) (K : PySem.W.Frag) : Prop := obsX cs fn K = He.valD fn
def obsXG (n : Nat) (cs : List (PySem.W.Frag → Bool)) (fn : List He.DefD) (g : Addr → Option Obj) : He.AlD := obsX cs fn (He.frG g (He.asD g n))
def hookX (n : Nat) (cs : List (PySem.W.Frag → Bool)) (fn : List He.DefD) : PySem.W.Hook where
  α := He.AlD
  obs := fun s => obsXG n cs fn s.heap.get?
  val := fun _ => He.valD fn
  says := fun _ h => ∃ K : PySem.W.Frag, K.In h ∧ SaysX cs fn K
  of := fun _ _ e => ⟨_, He.frG_in, e⟩
  keeps := fun _ _ _ ⟨K, hK, c⟩ k => ⟨K, hK.keeps k, c⟩
theorem obsXG_eq {n : Nat} {cs : List (PySem.W.Frag → Bool)} {fn : List He.DefD} {g : Addr → Option Obj} {s : Shared} (h : ∀ a, g a = s.heap.get? a) : obsXG n cs fn g = (hookX n cs fn).obs s := by
  rw [show g = s.heap.get? from funext h]; rfl
section
variable {cs : List (PySem.W.Frag → Bool)} {fn : List He.DefD} {K : PySem.W.Frag}
theorem SaysX.look (c : SaysX cs fn K) (i : Nat) {f : PySem.W.Frag → Bool} (h : cs[i]? = some f := by rfl) : f K = true := by
  have c1 : ((cs.all fun c => c K) && fn.all fun d => d.ok K) = true := congrArg (fun z : He.AlD => z.1) c
  exact List.all_eq_true.mp (He.ba c1).1 f (List.mem_of_getElem? h)
theorem SaysX.defd (c : SaysX cs fn K) (i : Nat) {d : He.DefD} (h : fn[i]? = some d := by rfl) : ∃ fd, FunD K d.name d.qual d.params d.body d.scope (d.dvs K) (d.kws K) (He.fAd K d.at_) fd := by
  have c1 : ((cs.all fun c => c K) && fn.all fun d => d.ok K) = true := congrArg (fun z : He.AlD => z.1) c
  have e : fn.map (fun d => He.fnW K d.at_) = fn.map He.DefD.val := congrArg (fun z : He.AlD => z.2) c
  have e2 := congrArg (fun l => l[i]?) e
  simp only [List.getElem?_map, h, Option.map_some] at e2
  exact He.DefD.funD (Option.some.inj e2) (List.all_eq_true.mp (He.ba c1).2 d (List.mem_of_getElem? h))
end
/-- an instance's type, as isinstance asks it -/
def insB (x : Str) (K : PySem.W.Frag) : Bool := He.eqO (PySem.W.findIn K (.ref (He.ga K x)) "__class__") (some (some (.builtin "object.__class__"))) &&
  (He.eqO (PySem.W.specialIn K (.builtin "object.__class__") "__get__") (some (some (.builtin "getset_descriptor.__get__"))) && (decide (PySem.W.takesIn K (.builtin "object.__class__") = some true) && decide (PySem.W.mroIn K (He.ga K x) (.type "object") = some true)))
def isB (t : PySem.W.Frag → Value) (c : PySem.W.Frag → Value) (b : Bool) (K : PySem.W.Frag) : Bool := decide (PySem.W.kitOne K (t K) (c K) = some b)
theorem insB_ok {K : PySem.W.Frag} {H : Hp} {x : Str} (c : Cls K (He.ga K x)) (h : insB x K = true) {a dx : Addr} {fs : List (Str × V)} (e : H a = some (.ins (He.ga K x) dx fs)) : TyX K H (.ref a) (.ref (He.ga K x)) := by
  obtain ⟨h1, h2⟩ := He.ba h
  obtain ⟨h3, h4⟩ := He.ba h2
  obtain ⟨h5, h6⟩ := He.ba h4
  exact .base (.ins e c (He.eqO_ok h1) (He.eqO_ok h3) (of_decide_eq_true h5) (of_decide_eq_true h6))
theorem isB_ok {t c : PySem.W.Frag → Value} {b : Bool} {K : PySem.W.Frag} (h : isB t c b K = true) : PySem.W.kitOne K (t K) (c K) = some b := of_decide_eq_true h
end Eb
namespace Eb
open PySem PySem.Spec PyProof.Rows L2
/-- at p an empty tuple is written -/
def tupAtB (K : PySem.W.Frag) (p : Addr) : Bool := match K.lookup p with
  | some ⟨.type c, _, .seq its _, _⟩ => decide (c = "tuple") && decide (its = #[])
  | _ => false
theorem tupAt_ok {K : PySem.W.Frag} {p : Addr} (h : tupAtB K p = true) (H : Hp) : SqT K H p [] := by
  unfold tupAtB at h
  cases q : K.lookup p with
  | none => rw [q] at h; cases h
  | some o =>
    obtain ⟨oc, od, dt, osl⟩ := o
    rw [q] at h
    cases oc with
    | type c =>
      cases dt with
      | seq its n =>
        obtain ⟨h1, h2⟩ := He.ba (show (decide (c = "tuple") && decide (its = #[])) = true from h)
        have e := of_decide_eq_true h2
        subst e
        exact .inr ⟨_, #[], n, q, congrArg Value.type (of_decide_eq_true h1), rfl, by simp, .nil⟩
      | _ => cases h
    | _ => cases dt <;> cases h
theorem tupAt_ty {K : PySem.W.Frag} {p : Addr} (h : tupAtB K p = true) (H : Hp) : TyX K H (.ref p) (.type "tuple") := by
  unfold tupAtB at h
  cases q : K.lookup p with
  | none => rw [q] at h; cases h
  | some o =>
    obtain ⟨oc, od, dt, osl⟩ := o
    rw [q] at h
    cases oc with
    | type c =>
      cases dt with
      | seq its n =>
        obtain ⟨h1, h2⟩ := He.ba (show (decide (c = "tuple") && decide (its = #[])) = true from h)
        exact .kTuple q (congrArg Value.type (of_decide_eq_true h1))
      | _ => cases h
    | _ => cases dt <;> cases h
end Eb
set_option maxHeartbeats 4000000
namespace Eb
open PySem PySem.Spec PyProof.Rows L2
theorem itT {b : Bool} {A B : Prop} (e : b = true) (h : A) : if b = true then A else B := by rw [if_pos e]; exact h
theorem itF {b : Bool} {A B : Prop} (e : b = false) (h : B) : if b = true then A else B := by rw [if_neg (by rw [e]; decide)]; exact h
theorem it2 {b : Bool} {A B : Prop} (h1 : b = true → A) (h2 : b = false → B) : if b = true then A else B := by
  cases b
  · exact itF rfl (h2 rfl)
  · exact itT rfl (h1 rfl)
theorem dT {p : Prop} [Decidable p] (h : p) : decide p = true := decide_eq_true h
theorem dF {p : Prop} [Decidable p] (h : ¬ p) : decide p = false := decide_eq_false h
theorem at_g {α : Type} {xs : List α} {z : Int} {j : Nat} {v : α} (e : z = (j : Int)) (h : xs[j]? = some v) : atI xs z = some v := by subst e; exact atI_nat h
theorem mem1 {a : Addr} : a ∈ [a] := List.mem_singleton.mpr rfl

/-! ## the ways behind a part joined -/
def tJ (te : TE) : TE := fun σ H Q => ∃ P : VK, te σ H P ∧ ∀ v H', P v H' → Q v H'
theorem pe_j {X : Cx} {e : Expr} {te : TE} (h : PE X e te) : PE X e (tJ te) :=
  ⟨fun pins s σ H Q I ⟨P, h1, h2⟩ => wpAny_mono (h.run pins s σ H P I h1) (fun v s' ⟨x, H', I', r, p⟩ => ⟨x, H', I', r, h2 x H' p⟩) fun _ _ z => z⟩
def tJT (tt : TT) : TT := fun σ H Q => ∃ P : Bool → Hp → Prop, tt σ H P ∧ ∀ v H', P v H' → Q v H'
theorem pt_j {X : Cx} {e : Expr} {tt : TT} (h : PT X e tt) : PT X e (tJT tt) :=
  ⟨fun pins s σ H Q I ⟨P, h1, h2⟩ => wpAny_mono (h.run pins s σ H P I h1) (fun v s1 ⟨H1, I1, p⟩ => ⟨H1, I1, h2 v H1 p⟩) fun _ _ z => z⟩
def tJS (t : TS) : TS := fun D σ H => ∃ N : L2.St → Hp → Prop, t { D with nx := N } σ H ∧ ∀ σ' H', N σ' H' → D.nx σ' H'
theorem ps_j {X : Cx} {st : Stmt} {t : TS} (h : PS X st t) : PS X st (tJS t) :=
  ⟨fun pins s σ H D I ⟨N, h1, h2⟩ => wpAny_mono (h.run pins s σ H _ I h1) (fun f s' p => by
    cases f with
    | next => obtain ⟨σ', H', J, q⟩ := p; exact ⟨σ', H', J, h2 σ' H' q⟩
    | ret u => exact p
    | brk => exact p
    | cont => exact p) fun _ _ z => z⟩
section
variable {X : Cx} {x : Str} {pos : Pos}
/-- the module's constants -/
theorem pe_gi {n : Int} (h : ∃ t, X.mg x = some (.int n t)) (hg : Gl X x := by rfl) (hd : (x == ("__debug__" : Str)) = false := by decide) : PE X (.Name x pos) (tC (.int n)) := let ⟨t, e⟩ := h; pe_glob hg e ⟨t, rfl⟩ hd
theorem pe_gs {z : Str} (h : ∃ t, X.mg x = some (.str z t)) (hg : Gl X x := by rfl) (hd : (x == ("__debug__" : Str)) = false := by decide) : PE X (.Name x pos) (tC (.str z)) := let ⟨t, e⟩ := h; pe_glob hg e ⟨t, rfl⟩ hd
theorem pe_gr {a : Addr} (h : X.mg x = some (.ref a)) (hg : Gl X x := by rfl) (hd : (x == ("__debug__" : Str)) = false := by decide) : PE X (.Name x pos) (tC (.ref a)) := pe_glob hg h rfl hd
theorem pe_ty {T : String} (h : X.mg x = none) (hv : bootBuiltins x = some (.type T)) (hg : Gl X x := by rfl) (hn : x ≠ "__name__" := by decide) (hd : (x == ("__debug__" : Str)) = false := by decide) : PE X (.Name x pos) (tC (.ty T)) := pe_bltn hg h hv rfl hn hd
end

/-! ## one of two rules -/
section
variable {X : Cx}
theorem ix_or {r1 r2 : R2} (h1 : IxR X r1) (h2 : IxR X r2) : IxR X (fun x y H Q => r1 x y H Q ∨ r2 x y H Q) := fun b hb pins s σ H x y v u Q I a c h => h.elim (fun q => h1 b hb pins s σ H x y v u Q I a c q) (fun q => h2 b hb pins s σ H x y v u Q I a c q)
theorem pi_or {tg e : Expr} {w1 w2 : TI} (h1 : PI X tg e w1) (h2 : PI X tg e w2) : PI X tg e (fun σ H R => w1 σ H R ∨ w2 σ H R) := ⟨fun pins s σ H R I h => h.elim (fun q => h1.run pins s σ H R I q) (fun q => h2.run pins s σ H R I q)⟩
theorem op_or' {f : Value → Value → Sem Value} {r1 r2 : R2} (h1 : OpR X f r1) (h2 : OpR X f r2) : OpR X f (fun x y H Q => r1 x y H Q ∨ r2 x y H Q) := fun pins s σ H x y v u Q I a c h => h.elim (fun q => h1 pins s σ H x y v u Q I a c q) (fun q => h2 pins s σ H x y v u Q I a c q)
theorem call_or {f : Value} {r1 r2 : List V → Hp → VK → Prop} (h1 : CallR X f r1) (h2 : CallR X f r2) : CallR X f (fun x H Q => r1 x H Q ∨ r2 x H Q) := fun pins s σ H x u Q I a h => h.elim (fun q => h1 pins s σ H x u Q I a q) (fun q => h2 pins s σ H x u Q I a q)
end
/-- o.f as one of several targets -/
def gFld (K : PySem.W.Frag) (ta : TE) (f : Str) : TG := fun y σ H Q => ta σ H fun x H2 => ∃ a C dx fs, x = .ref a ∧ H2 a = some (.ins C dx fs) ∧ Cls K C ∧ NoAttr K C f ∧ fs.length < 1000 ∧ Q σ (upd H2 a (.ins C dx (putF f y fs)))
theorem pg_fld {X : Cx} {o : Expr} {f : Str} {ta : TE} {pos : Pos} (ha : PE X o ta) : PG X (.Attribute o f pos) (gFld X.K ta f) := by
  refine ⟨fun pins s σ H v u Q I r h => ?_⟩
  rw [assign_Attribute]
  refine wpAny_bind (wpAny_holding (thn (ha.run pins s σ H _ I h) fun ov s1 ⟨x, H1, I1, rx, a, C, dx, fs, ex, ea, c, n, l, q⟩ => ?_))
  subst ex
  obtain rfl : ov = Value.ref a := rx
  refine wpAny_bind (wpAny_standAt (wpAny_bind (wpAny_holding (setattr_ok I1 ea c n l r fun s3 I3 => ?_))))
  exact wpAny_release ⟨σ, _, I3, q⟩
section
variable {P : Program} {w : World} {K : PySem.W.Frag} {mg : Str → Option Value} {base : Heap} {k : Nat} {f : Addr} {ps N : List Str} {sp : Sp} {x qual : Str} {params : Arguments} {body : List Stmt} {scope : Scope}
/-- bindings where every parameter is written -/
def Bd (x qual : Str) (params : Arguments) (body : List Stmt) (scope : Scope) (ps : List Str) : Prop :=
  ∀ (kV doc pm : Value) (an : Option Addr) (cdv ct : Value) (us : List Value), us.length = ps.length → bindArgs (PySem.W.fnOf x qual params body scope .none kV doc pm an cdv ct) ⟨us, []⟩ = pure (ps.zip us)
/-- what a body shows -/
def By (P : Program) (w : World) (K : PySem.W.Frag) (mg : Str → Option Value) (base : Heap) (k : Nat) (f : Addr) (N : List Str) (qual : Str) (body : List Stmt) (scope : Scope) (sp : Sp) : Prop :=
  ∀ (cdv : Value) (A : Around) (outer : List Env) (s : Shared) (H : Hp) (vs : List V) (Q : VK) (E : XK), Room k (A.deeper (envOfC qual scope s.heap.objs.size f cdv)) → sp vs H Q E →
      ∃ t, PSs (cxOf CX0 P w K mg base N qual scope f cdv A outer s H E).nox body t ∧ t { nx := fun _ H' => Q .non H', rt := Q } (start N vs) H
theorem okD {dvs : List V} {fd : FuncData} (F : FunD K x qual params body scope dvs [] f fd) (S : FnScope N ps scope) (len : ∀ vs H Q E, sp vs H Q E → vs.length = ps.length) (hb : By P w K mg base k f N qual body scope sp) : FnOk P w K mg base CX0 (k + 1) f fd ps sp :=
  F.ok S len fun cdv A o s H vs Q E hr h => let ⟨t, h1, h2⟩ := hb cdv A o s H vs Q E hr h; ⟨t, h1.nox, h2⟩
theorem calD (h : ∃ fd, FunD K x x params body scope [] [] f fd) (g : mg x = some (.ref f)) (S : FnScope N ps scope) (bd : Bd x x params body scope ps) (len : ∀ vs H Q E, sp vs H Q E → vs.length = ps.length)
    (hb : By P w K mg base k f N x body scope sp) : C8.Cal P w K mg base (k + 1) x sp [] := by
  obtain ⟨fd, F⟩ := h
  exact ⟨f, fd, ps, [], okD F S len hb, g, F.kp, F.bindsN bd, .nil⟩
theorem metD {C : Addr} (h : ∃ fd, FunD K x qual params body scope [] [] f fd) (c : Cls K C) (m : Meth K C x f) (S : FnScope N ps scope) (bd : Bd x qual params body scope ps) (len : ∀ vs H Q E, sp vs H Q E → vs.length = ps.length)
    (hb : By P w K mg base k f N qual body scope sp) : C8.Met P w K mg base (k + 1) C x sp [] := by
  obtain ⟨fd, F⟩ := h
  exact ⟨f, fd, ps, [], c, m, okD F S len hb, F.bindsN bd, .nil⟩
theorem makD {C : Addr} {cn : Str} (h : ∃ fd, FunD K x qual params body scope [] [] f fd) (M : Mk K C f) (g : mg cn = some (.ref C)) (S : FnScope N ps scope) (bd : Bd x qual params body scope ps) (len : ∀ vs H Q E, sp vs H Q E → vs.length = ps.length)
    (hb : By P w K mg base k f N qual body scope sp) : C8.Mak P w K mg base (k + 1) cn C sp [] := by
  obtain ⟨fd, F⟩ := h
  exact ⟨f, fd, ps, [], M, okD F S len hb, g, F.bindsN bd, .nil⟩
/-- a class whose __init__ has defaults, n written arguments (self among them), the defaults behind the first j -/
theorem makD1 {C : Addr} {cn : Str} {dvs : List V} (h : ∃ fd, FunD K x qual params body scope dvs [] f fd) (M : Mk K C f) (g : mg cn = some (.ref C)) (S : FnScope N ps scope) (n j : Nat) (hd : dvs ≠ []) (hn : n + (dvs.length - j) = ps.length)
    (bd : ∀ (T : Addr) (kV doc pm : Value) (an : Option Addr) (cdv ct : Value) (us its : List Value), us.length = n → its.length = dvs.length →
      ∃ k, bindArgs (PySem.W.fnOf x qual params body scope (.ref T) kV doc pm an cdv ct) ⟨us, []⟩ = seqItems? (.ref T) >>= k ∧ k (some its.toArray) = pure (ps.zip (us ++ its.drop j)))
    (len : ∀ vs H Q E, sp vs H Q E → vs.length = ps.length) (hb : By P w K mg base k f N qual body scope sp) : C8.Mak P w K mg base (k + 1) cn C sp (dvs.drop j) := by
  obtain ⟨fd, F⟩ := h
  obtain ⟨ds, h1, h2⟩ := F.binds1 n j hd hn bd
  exact ⟨f, fd, ps, ds, M, okD F S len hb, g, h2, h1⟩
/-- what a body shows, nothing being shown around -/
def ByG (P : Program) (w : World) (K : PySem.W.Frag) (mg : Str → Option Value) (base : Heap) (k : Nat) (f : Addr) (N : List Str) (qual : Str) (body : List Stmt) (scope : Scope) (sp : Sp) : Prop :=
  ∀ (cdv : Value) (A : Around) (outer : List Env) (s : Shared) (H : Hp) (vs : List V) (Q : VK) (E : XK), (A.deeper (envOfC qual scope s.heap.objs.size f cdv)).guards = some [] → Room k (A.deeper (envOfC qual scope s.heap.objs.size f cdv)) → sp vs H Q E →
      ∃ t, PSs (cxOf CX0 P w K mg base N qual scope f cdv A outer s H E).nox body t ∧ t { nx := fun _ H' => Q .non H', rt := Q } (start N vs) H
theorem calG (h : ∃ fd, FunD K x x params body scope [] [] f fd) (g : mg x = some (.ref f)) (S : FnScope N ps scope) (bd : Bd x x params body scope ps) (len : ∀ vs H Q E, sp vs H Q E → vs.length = ps.length)
    (hb : ByG P w K mg base k f N x body scope sp) : CalG P w K mg base (k + 1) x sp := by
  obtain ⟨fd, F⟩ := h
  exact ⟨f, fd, ps, okG F S len hb, g, F.kp, F.bindsN bd⟩
end

theorem pe_mk0 {X : Cx} {k j : Nat} {C : Addr} {x : Str} {sp : Sp} {dvs : List V} {p pos : Pos} (c : C8.Mak X.prog X.w X.K X.mg X.base k x C sp dvs) (hr : Room j X.A) (hk : k + 1 ≤ j) (hg : Gl X x) (hdb : (x == ("__debug__" : Str)) = false := by decide) :
    PE X (.Call (.Name x p) [] [] pos) (tMake C sp dvs E0 tNil) := by
  obtain ⟨f, fd, ps, ds, M, F, hm, b, d⟩ := c.ex
  exact pe_make0 M F (hr.mono hk) hg hm b d pass0 hdb
/-! ## o[i] = v by an own __setitem__ -/
def rSetO (C : Addr) (sp : Sp) : TSet := fun o i v H Q => ∃ a dx fs, o = .ref a ∧ H a = some (.ins C dx fs) ∧ sp [.ref a, i, v] H (fun _ H' => Q H') E0
theorem set_own {X : Cx} {k j : Nat} {C : Addr} {sp : Sp} (c : C8.Met X.prog X.w X.K X.mg X.base k C "__setitem__" sp []) (nq : PySem.W.noSeq X.K C = true) (hr : Room j X.A) (hk : k ≤ j) : PSet X (rSetO C sp) := by
  intro pins s σ H o i v ov iv u Q I ro ri rv h
  obtain ⟨a, dx, fs, rfl, ea, q⟩ := h
  cases (show ov = Value.ref a from ro)
  obtain ⟨f, fd, ps, ds, hc, hm, F, b, d⟩ := c.ex
  cases d
  obtain ⟨mA, O, _⟩ := ins_get I.hok ea
  obtain ⟨od, J, _⟩ := O.look
  obtain ⟨m, Fm⟩ := I.fr
  refine PySem.W.ksp_setItem Fm I.ok.mod.kin J nq hm.at_ hm.fn ?_
  exact thn (run_fn (us := [.ref a, iv, u]) (vs := [.ref a, i, v]) F (hr.mono hk) b .nil pass0 I (.cons rfl (.cons ri (.cons rv .nil))) q) fun _ s' ⟨_, H', I', _, q'⟩ => ⟨H', I', q'⟩
/-! ## enumerate(text) -/
def Ites (z : Str) : It := ⟨fun i _ => i < z.cps.size, fun i H v H' => ∃ T c, v = .ref T ∧ H T = none ∧ H' = upd H T (.tup [.int (i : Nat), .str ⟨#[c]⟩]) ∧ z.cps[i]? = some c, fun i _ => z.cps.size ≤ i⟩
theorem turn_enumS {P : Program} {w : World} {K : PySem.W.Frag} {elts : List Expr} {kk : Nat} {tpos : Pos} (z : Str) (t : Tok) (e it : Addr) :
    Turn P w K (.Tuple elts kk tpos) (Ites z) [e, it] e (fun i h => (∃ old, IsEnum h e it ((i : Nat) : Int) old) ∧ h.IsStrIter it (strIterType z) z t i ∧ e ≠ it ∧ i ≤ z.cps.size) where
  mem := by simp
  obj := fun i h st b hb => by
    obtain ⟨⟨old, he⟩, ⟨o, ho, hc, hd⟩, _⟩ := st
    rcases (show b = e ∨ b = it by simpa using hb) with q | q
    · exact q ▸ ⟨_, he, fun v q => nomatch q⟩
    · exact q ▸ ⟨o, ho, fun v q => by rw [hd] at q; cases q⟩
  keep := fun i h h' st k => let ⟨⟨old, he⟩, ⟨o, ho, r⟩, hne, hl⟩ := st; ⟨⟨old, k e (by simp) _ he⟩, ⟨o, k it (by simp) o ho, r⟩, hne, hl⟩
  item := by
    intro X hP hw hK hc i pins s σ H E I hf st hg
    subst hP hw hK
    obtain ⟨⟨old, he⟩, hit, hne, hl⟩ := st
    have D := Draws.text (prog := X.prog) (w := X.w) (A := X.A.in1) (I.ok.hd hc) it z t
    have hel : e < s.heap.objs.size := Heap.lt_size he
    have hil : it < s.heap.objs.size := let ⟨_, q, _⟩ := hit; Heap.lt_size q
    refine wpAny_pyNext_enum_itemD D he hit hg hne (by simpa using hne) fun v h' tk hv ho hit' hT hsz hk => ?_
    obtain ⟨c, u, hcx, rfl⟩ := hv
    refine ⟨_, rfl, wpAny_letOwnedTupleGo_enum (s := { s with heap := h', toks := tk + 1 }) ho fun h'' he' sb => ?_⟩
    have hT2 := (sb.2 _ (Nat.ne_of_gt hel)).trans hT
    have new : ObjOk X.prog X.w (upd H s.heap.objs.size (.tup [.int (i : Nat), .str ⟨#[c]⟩])) h'' s.heap.objs.size (.tup [.int (i : Nat), .str ⟨#[c]⟩]) :=
      ⟨by show 2 ≤ sizeLine; decide, _, .cons ⟨_, rfl⟩ (.cons ⟨_, rfl⟩ .nil), ⟨_, hT2, rfl, _, rfl⟩⟩
    have I1 := I.turnedNew (h' := h'') (t' := tk + 1) (ch := [e, it]) (fun b ob hb q => (sb.2 b (fun y => hb (by simp [y]))).trans (hk b ob (fun y => hb (by simp [y])) (fun y => hb (by simp [y])) q)) hf (Nat.le_refl _) new
    refine ⟨.ref s.heap.objs.size, _, I1, rfl, ⟨_, c, rfl, I.hok.fresh (Nat.le_refl _), rfl, hcx⟩, ⟨⟨_, (by rw [show ((i + 1 : Nat) : Int) = (i : Int) + 1 by omega]; exact he')⟩, ?_, hne, hg⟩, fun b hb => ?_⟩
    · obtain ⟨o, q, r⟩ := hit'
      exact ⟨o, (sb.2 it (Ne.symm hne)).trans q, r⟩
    · have hb' : b < s.heap.objs.size := by
        rcases (show b = e ∨ b = it by simpa using hb) with q | q
        · rw [q]; exact hel
        · rw [q]; exact hil
      rw [upd_ne (Nat.ne_of_lt hb')]
      exact (hf b hb).1
  done := by
    intro X hP hw hK hc i pins s σ H E I hf st hg
    subst hP hw hK
    obtain ⟨⟨old, he⟩, hit, hne, hl⟩ := st
    have ei : i = z.cps.size := Nat.le_antisymm hl hg
    have D := Draws.text (prog := X.prog) (w := X.w) (A := X.A.in1) (I.ok.hd hc) it z t
    obtain ⟨f0, f1, f2, f3, f4, f5⟩ := hf it (by simp)
    exact wpAny_pyNext_enum_endD D he (ei ▸ hit) fun h' eb => ⟨rfl, I.turned (t' := s.toks) (fun b o hb q => eb b o hb q) f0 f1 f3 f4 f5⟩
  self := fun A i s Q E st h => let ⟨⟨_, he⟩, _⟩ := st; wpAny_pyIter_enum he h
def iEnumS (ta : TA) : TI := fun σ H R => ta σ H fun vs H1 => ∃ z, vs = [.str z] ∧ R (Ites z) H1
theorem pi_enumS {X : Cx} {e : Expr} {ta : TA} {p pos tpos : Pos} {elts : List Expr} {kk : Nat} (hg : Gl X "enumerate") (hm : X.mg "enumerate" = none) (ha : PA X [e] ta) (hs : starEach [e] X.env = [(false, eval e X.env)] := by rfl) :
    PI X (.Tuple elts kk tpos) (.Call (.Name "enumerate" p) [e] [] pos) (iEnumS ta) := by
  refine ⟨fun pins s σ H R I h => Call_ (ld_blt I hg hm boot_enumerate (PyProof.Rows.callWith_type1 (thn (ha.run pos pins s σ H _ I h) fun us s1 ⟨vs, H1, I1, r1, q1⟩ => ?_) hs rfl))⟩
  obtain ⟨z, rfl, q⟩ := q1
  obtain ⟨u, rfl, t, rfl⟩ := vals1 r1
  refine call_enumerate_str fun h' he hit hsz hk => wpAny_pyIter_enum he ?_
  have I2 : Inv X pins σ H1 { s1 with heap := h' } := I1.kept (t' := s1.toks) hk
  refine ⟨s1.heap.objs.size + 1, [s1.heap.objs.size + 1, s1.heap.objs.size], _, _, H1, rfl, I2, turn_enumS z t _ _, ⟨⟨.none, he⟩, hit, Nat.succ_ne_self _, Nat.zero_le _⟩, fun b hb => ?_, q⟩
  have hle : s1.heap.objs.size ≤ b := by
    rcases (show b = s1.heap.objs.size + 1 ∨ b = s1.heap.objs.size by simpa using hb) with y | y
    · rw [y]; exact Nat.le_add_right _ _
    · rw [y]; exact Nat.le_refl _
  exact I1.fpOk hle (I1.hok.fresh hle)
theorem walk_enumS {z : Str} : Walk (Ites z) z.cps.size (fun _ => True) (YPair (fun i => some (.int (i : Nat))) (fun i => (z.cps[i]?).map fun c => V.str ⟨#[c]⟩)) :=
  ⟨fun _ _ hi _ => hi, fun _ _ => Nat.le_refl _, fun i H v H' _ _ y => let ⟨T, c, h1, h2, h3, h4⟩ := y; ⟨T, _, _, h1, h2, h3, rfl, by show Option.map _ z.cps[i]? = _; rw [h4]; rfl⟩⟩
end Eb
set_option maxHeartbeats 4000000
namespace Eb
open PySem PySem.Spec PyProof.Rows L2
/-! ## texts as lists of signs -/
def tx (l : List Nat) : Str := ⟨l.toArray⟩
theorem tx_list (l : List Nat) : (tx l).cps.toList = l := by simp [tx]
theorem tx_of (z : Str) : tx z.cps.toList = z := by simp [tx]
theorem tx_size (l : List Nat) : (tx l).cps.size = l.length := by simp [tx]
theorem tx_len (l : List Nat) : (tx l).length = l.length := tx_size l
theorem tx_get (l : List Nat) (i : Nat) : (tx l).cps[i]? = l[i]? := by simp [tx]
theorem tx_app (a b : List Nat) : tx a ++ tx b = tx (a ++ b) := by
  show Str.append (tx a) (tx b) = _
  simp [Str.append, tx]
theorem tx_inj {a b : List Nat} (h : tx a = tx b) : a = b := by rw [← tx_list a, h, tx_list]
theorem tx_eq {a b : List Nat} : tx a = tx b ↔ a = b := ⟨tx_inj, fun h => by rw [h]⟩
theorem tx_ex (z : Str) : ∃ l, z = tx l := ⟨_, (tx_of z).symm⟩
theorem tx_nil : (PySem.Str.ofString "" : Str) = tx [] := by decide +kernel
theorem cut_to (l : List Nat) (k : Nat) : cutS (tx l) none (some (k : Int)) = tx (l.take k) := by
  unfold cutS
  rw [tx_list, HT.sIx_none, HT.sIx_nat, tx_len, List.drop_zero, Nat.sub_zero]
  show tx _ = tx _
  rw [tx_eq]
  by_cases h : k ≤ l.length
  · rw [Nat.min_eq_left h]
  · rw [Nat.min_eq_right (by omega), List.take_of_length_le (Nat.le_refl _), List.take_of_length_le (by omega)]
theorem cut_from (l : List Nat) (k : Nat) : cutS (tx l) (some (k : Int)) none = tx (l.drop k) := by
  unfold cutS
  rw [tx_list, HT.sIx_none, HT.sIx_nat, tx_len]
  show tx _ = tx _
  rw [tx_eq]
  by_cases h : k ≤ l.length
  · rw [Nat.min_eq_left h, List.take_of_length_le (by rw [List.length_drop]; exact Nat.le_refl _)]
  · rw [Nat.min_eq_right (by omega), List.drop_eq_nil_of_le (Nat.le_refl _), List.drop_eq_nil_of_le (by omega), List.take_nil]
theorem txt_join (sep : Str) (l : List Str) : Txt.join sep l = Str.join sep l := by
  have h := join_plain_closes sep l
  simpa using h
theorem join3 (a b c : List Nat) : Txt.join (PySem.Str.ofString "") [tx a, tx b, tx c] = tx (a ++ b ++ c) := by
  rw [txt_join, tx_nil]
  show tx a ++ tx [] ++ (tx b ++ tx [] ++ tx c) = _
  rw [tx_app, tx_app, tx_app, tx_app, tx_eq]
  simp
/-- one sign after another -/
theorem join_signs : ∀ l : List Nat, Txt.join (PySem.Str.ofString "") (l.map fun c => tx [c]) = tx l := by
  intro l
  rw [txt_join, tx_nil]
  induction l with
  | nil => rfl
  | cons c r ih =>
    cases r with
    | nil => rfl
    | cons c2 r =>
      show tx [c] ++ tx [] ++ Str.join (tx []) ((c2 :: r).map fun c => tx [c]) = _
      rw [ih, tx_app, tx_app, tx_eq]
      rfl
/-- the digits of a count -/
def dig (n : Nat) : List Nat := (PySem.Str.ofString (toString (n : Int))).cps.toList
theorem dig_eq (n : Nat) : (PySem.Str.ofString (toString (n : Int)) : Str) = tx (dig n) := (tx_of _).symm
theorem dig_len (n : Nat) : (dig n).length = (Nat.repr n).length := by
  unfold dig
  rw [PySem.Str.ofString_eq_toList]
  show (((toString (n : Int)).toList.map Char.toNat).toArray.toList).length = _
  rw [List.toList_toArray, List.length_map]
  rfl
theorem dig_le {n k : Nat} (hk : 0 < k) (h : n < 2 ^ k) : (dig n).length ≤ k := by
  rw [dig_len]; exact nat_repr_length_le hk h
/-- a list with just one hash -/
theorem one_hash : ∀ {l : List Nat}, (l.filter (· != 35)).length + 1 = l.length → ∃ A B, l = A ++ 35 :: B ∧ A.all (· != 35) = true ∧ B.all (· != 35) = true ∧ l.filter (· != 35) = A ++ B
  | [], h => by simp at h
  | c :: r, h => by
    by_cases e : c = 35
    · subst e
      have h2 : (r.filter (· != 35)).length = r.length := by simpa using h
      have h3 : r.filter (· != 35) = r := List.filter_eq_self.mpr (List.length_filter_eq_length_iff.mp h2)
      exact ⟨[], r, rfl, rfl, List.all_eq_true.mpr (List.length_filter_eq_length_iff.mp h2), by simpa using h3⟩
    · have ne : (c != 35) = true := by simpa using e
      have fc : ∀ q : List Nat, (c :: q).filter (· != 35) = c :: q.filter (· != 35) := fun q => List.filter_cons_of_pos (p := (· != 35)) ne
      rw [fc] at h
      obtain ⟨A, B, h1, h2, h3, h4⟩ := one_hash (l := r) (by simpa using h)
      exact ⟨c :: A, B, by rw [h1]; rfl, by simp [h2, e], h3, by rw [fc, h4]; rfl⟩
theorem hash_eq : ((PySem.Str.ofString "#") : Str) = ⟨#[35]⟩ := by decide +kernel
theorem split_uniq : ∀ {A p B q : List Nat}, (∀ c ∈ A, c ≠ 35) → (∀ c ∈ B, c ≠ 35) → p ++ 35 :: q = A ++ 35 :: B → p = A ∧ q = B
  | [], [], B, q, _, _, h => ⟨rfl, by simpa using h⟩
  | [], c :: p, B, q, _, hB, h => by
    have h2 : c = 35 ∧ p ++ 35 :: q = B := by simpa using h
    exact absurd rfl (hB 35 (by rw [← h2.2]; simp))
  | a :: A, [], B, q, hA, _, h => by
    have h2 : 35 = a := (List.cons.inj (show 35 :: q = a :: (A ++ 35 :: B) from h)).1
    exact absurd h2.symm (hA a (by simp))
  | a :: A, c :: p, B, q, hA, hB, h => by
    have h2 : c = a ∧ p ++ 35 :: q = A ++ 35 :: B := by simpa using h
    obtain ⟨e1, e2⟩ := split_uniq (fun x hx => hA x (List.mem_cons_of_mem _ hx)) hB h2.2
    exact ⟨by rw [h2.1, e1], e2⟩
theorem cnt_zero : ∀ {l : List Nat}, (∀ c ∈ l, c ≠ 35) → cnt 35 l = 0
  | [], _ => rfl
  | c :: r, h => by
    have ih := cnt_zero (l := r) fun x hx => h x (List.mem_cons_of_mem _ hx)
    have hc := h c (by simp)
    rw [cnt_cons, ih, if_neg hc]; rfl
theorem cnt_one : ∀ {A B : List Nat}, (∀ c ∈ A, c ≠ 35) → (∀ c ∈ B, c ≠ 35) → cnt 35 (A ++ 35 :: B) = 1
  | [], B, _, hB => by
    show cnt 35 (35 :: B) = 1
    rw [cnt_cons, cnt_zero hB, if_pos rfl]; rfl
  | a :: A, B, hA, hB => by
    have ih := cnt_one (A := A) (fun x hx => hA x (List.mem_cons_of_mem _ hx)) hB
    have ha := hA a (by simp)
    show cnt 35 (a :: (A ++ 35 :: B)) = 1
    rw [cnt_cons, ih, if_neg ha]; rfl
theorem split_none {l : List Nat} (h : ∀ c ∈ l, c ≠ 35) : Txt.split (tx l) (PySem.Str.ofString "#") = [tx l] := by
  have e1 := split_len (tx l) 35
  have e2 := StrLaws.join_split (tx l) ⟨#[35]⟩
  rw [tx_list, cnt_zero h] at e1
  rw [hash_eq]
  match hx : Txt.split (tx l) ⟨#[35]⟩ with
  | [] => rw [hx] at e1; simp at e1
  | [a] => rw [hx] at e2; exact congrArg (fun z => [z]) e2
  | a :: b :: r => rw [hx] at e1; simp at e1; omega
theorem split_two {A B : List Nat} (hA : ∀ c ∈ A, c ≠ 35) (hB : ∀ c ∈ B, c ≠ 35) : Txt.split (tx (A ++ 35 :: B)) (PySem.Str.ofString "#") = [tx A, tx B] := by
  have e1 := split_len (tx (A ++ 35 :: B)) 35
  have e2 := StrLaws.join_split (tx (A ++ 35 :: B)) ⟨#[35]⟩
  rw [tx_list, cnt_one hA hB] at e1
  rw [hash_eq]
  match hx : Txt.split (tx (A ++ 35 :: B)) ⟨#[35]⟩ with
  | [] => rw [hx] at e1; simp at e1
  | [a] => rw [hx] at e1; simp at e1
  | [a, b] =>
    rw [hx] at e2
    obtain ⟨p, rfl⟩ := tx_ex a
    obtain ⟨q, rfl⟩ := tx_ex b
    have e3 : tx p ++ tx [35] ++ tx q = tx (A ++ 35 :: B) := e2
    rw [tx_app, tx_app, tx_eq] at e3
    obtain ⟨h1, h2⟩ := split_uniq (p := p) (q := q) hA hB (by simpa using e3)
    rw [h1, h2]
  | a :: b :: c :: r => rw [hx] at e1; simp at e1; omega
theorem putF_le (f : Str) (v : V) : ∀ fs : List (Str × V), (putF f v fs).length ≤ fs.length + 1
  | [] => Nat.le_refl _
  | (g, x) :: r => by
    unfold putF
    split
    · simp
    · have := putF_le f v r
      simp only [List.length_cons]
      omega
theorem putF_lt {f : Str} {v : V} {fs : List (Str × V)} (n : Nat) (h : fs.length ≤ n) (hn : n < 900) : (putF f v fs).length < 1000 := by have := putF_le f v fs; omega
theorem putF_n {f : Str} {v : V} {fs : List (Str × V)} {n : Nat} (h : fs.length ≤ n) : (putF f v fs).length ≤ n + 1 := by have := putF_le f v fs; omega
/-! ## how long repr's text is -/
structure Sh (d : PyData) (n k : Nat) : Prop where
  sh : d.showable = true
  nd : d.hasDict = false
  sz : d.shown.length ≤ n
  dp : d.depth ≤ k
structure ShA (ds : List PyData) (n k : Nat) : Prop where
  sh : PyData.showableAll ds = true
  nd : PyData.hasDictAll ds = false
  sz : ((PyData.shownAll ds).map (·.length)).sum ≤ n
  dp : PyData.depthAll ds ≤ k
theorem Sh.le {d : PyData} {n k m j : Nat} (h : Sh d n k) (h1 : n ≤ m) (h2 : k ≤ j) : Sh d m j := ⟨h.sh, h.nd, Nat.le_trans h.sz h1, Nat.le_trans h.dp h2⟩
theorem sh_none : Sh .none 4 1 := ⟨rfl, rfl, by decide +kernel, by decide⟩
theorem sh_bool (b : Bool) : Sh (.bool b) 5 1 := by cases b <;> exact ⟨rfl, rfl, by decide +kernel, by decide⟩
theorem sh_int (i : Nat) {k : Nat} (hk : 0 < k) (hk2 : k ≤ 1900) (h : i < 2 ^ k) : Sh (.int (i : Int)) k 1 := by
  refine ⟨?_, rfl, ?_, by simp [PyData.depth]⟩
  · show decide _ = true
    refine decide_eq_true ?_
    rw [Int.natAbs_natCast]
    by_cases h0 : i = 0
    · subst h0; decide
    · exact Nat.lt_of_lt_of_le ((Nat.log2_lt h0).mpr h) (by omega)
  · have e := dig_le hk h
    unfold dig at e
    rw [Array.length_toList] at e
    exact e
theorem sh_str (z : Str) (h : ∀ c ∈ z.cps.toList, c < 128) : Sh (.str z) (10 * z.length + 2) 1 := ⟨rfl, rfl, StrLaws.reprText_len z fun c hc => Nat.lt_of_lt_of_le (h c hc) (by decide), by simp [PyData.depth]⟩
theorem sha_nil : ShA [] 0 0 := ⟨rfl, rfl, by decide, by simp [PyData.depthAll]⟩
theorem sha_cons {d : PyData} {ds : List PyData} {n m k j : Nat} (h : Sh d n k) (t : ShA ds m j) : ShA (d :: ds) (n + m) (max k j) := by
  refine ⟨?_, ?_, ?_, ?_⟩
  · simp [PyData.showableAll, h.sh, t.sh]
  · simp [PyData.hasDictAll, h.nd, t.nd]
  · simp only [PyData.shownAll, List.map_cons, List.sum_cons]
    have := h.sz; have := t.sz; omega
  · simp only [PyData.depthAll]
    have := h.dp; have := t.dp; omega
theorem shownAll_length : ∀ ds : List PyData, (PyData.shownAll ds).length = ds.length
  | [] => rfl
  | d :: ds => by simp only [PyData.shownAll, List.length_cons, shownAll_length ds]
theorem sh_list {ds : List PyData} {n k : Nat} (h : ShA ds n k) : Sh (.list ds) (n + 2 * ds.length + 3) (k + 1) := by
  refine ⟨h.sh, h.nd, ?_, ?_⟩
  · have := listText_len_le (PyData.shownAll ds)
    rw [shownAll_length] at this
    have := h.sz
    show (listText (PyData.shownAll ds)).length ≤ _
    omega
  · simp only [PyData.depth]; have := h.dp; omega
theorem sh_tup {ds : List PyData} {n k : Nat} (h : ShA ds n k) : Sh (.tuple ds) (n + 2 * ds.length + 3) (k + 1) := by
  refine ⟨h.sh, h.nd, ?_, ?_⟩
  · have := tupleText_len_le (PyData.shownAll ds)
    rw [shownAll_length] at this
    have := h.sz
    show (tupleText (PyData.shownAll ds)).length ≤ _
    omega
  · simp only [PyData.depth]; have := h.dp; omega
theorem Sh.showy {d : PyData} {n k : Nat} (h : Sh d n k) (h1 : n ≤ 1000000) (h2 : k ≤ 100) : Showy d := ⟨h.sh, h.nd, Nat.le_trans h.sz (Nat.le_trans h1 (by decide)), Nat.le_trans h.dp h2⟩
end Eb
set_option maxHeartbeats 4000000
namespace Tx
open PySem PySem.Spec PyProof.Rows L2 Eb
def top (i : Nat) : Stmt := PySem.Challenge.pw_everysettles_k15_whole_faults_of_rows.main.body.getD i (.Pass ⟨0, 0, 0, 0⟩)
abbrev s_is_integer : Stmt := top 14
abbrev N_is_integer : List Str := ["value"]
theorem sc_is_integer : FnScope N_is_integer ["value"] (defScope s_is_integer) := ⟨rfl, rfl, rfl, by decide +kernel, rfl, by decide +kernel, by decide +kernel⟩
abbrev s_is_count : Stmt := top 15
abbrev N_is_count : List Str := ["value"]
theorem sc_is_count : FnScope N_is_count ["value"] (defScope s_is_count) := ⟨rfl, rfl, rfl, by decide +kernel, rfl, by decide +kernel, by decide +kernel⟩
abbrev s_is_list : Stmt := top 16
abbrev N_is_list : List Str := ["value"]
theorem sc_is_list : FnScope N_is_list ["value"] (defScope s_is_list) := ⟨rfl, rfl, rfl, by decide +kernel, rfl, by decide +kernel, by decide +kernel⟩
abbrev s_is_character : Stmt := top 17
abbrev N_is_character : List Str := ["sign"]
theorem sc_is_character : FnScope N_is_character ["sign"] (defScope s_is_character) := ⟨rfl, rfl, rfl, by decide +kernel, rfl, by decide +kernel, by decide +kernel⟩
abbrev s_is_word : Stmt := top 18
abbrev N_is_word : List Str := ["value", "sign"]
theorem sc_is_word : FnScope N_is_word ["value"] (defScope s_is_word) := ⟨rfl, rfl, rfl, by decide +kernel, rfl, by decide +kernel, by decide +kernel⟩
abbrev s_is_pattern_text : Stmt := top 19
abbrev N_is_pattern_text : List Str := ["value", "others", "sign"]
theorem sc_is_pattern_text : FnScope N_is_pattern_text ["value"] (defScope s_is_pattern_text) := ⟨rfl, rfl, rfl, by decide +kernel, rfl, by decide +kernel, by decide +kernel⟩
abbrev s_Pattern_init : Stmt := inClass (top 20) 0
abbrev N_Pattern_init : List Str := ["self", "text", "place", "at", "sign"]
theorem sc_Pattern_init : FnScope N_Pattern_init ["self", "text"] (defScope s_Pattern_init) := ⟨rfl, rfl, rfl, by decide +kernel, rfl, by decide +kernel, by decide +kernel⟩
abbrev s_Pattern_filled : Stmt := inClass (top 20) 1
abbrev N_Pattern_filled : List Str := ["self", "number"]
theorem sc_Pattern_filled : FnScope N_Pattern_filled ["self", "number"] (defScope s_Pattern_filled) := ⟨rfl, rfl, rfl, by decide +kernel, rfl, by decide +kernel, by decide +kernel⟩
abbrev s_Pattern_width : Stmt := inClass (top 20) 2
abbrev N_Pattern_width : List Str := ["self", "number"]
theorem sc_Pattern_width : FnScope N_Pattern_width ["self", "number"] (defScope s_Pattern_width) := ⟨rfl, rfl, rfl, by decide +kernel, rfl, by decide +kernel, by decide +kernel⟩
abbrev s_Pattern_want_room : Stmt := inClass (top 20) 3
abbrev N_Pattern_want_room : List Str := ["self", "many"]
theorem sc_Pattern_want_room : FnScope N_Pattern_want_room ["self", "many"] (defScope s_Pattern_want_room) := ⟨rfl, rfl, rfl, by decide +kernel, rfl, by decide +kernel, by decide +kernel⟩
abbrev s_Pattern_add : Stmt := inClass (top 20) 4
abbrev N_Pattern_add : List Str := ["self", "other"]
theorem sc_Pattern_add : FnScope N_Pattern_add ["self", "other"] (defScope s_Pattern_add) := ⟨rfl, rfl, rfl, by decide +kernel, rfl, by decide +kernel, by decide +kernel⟩
abbrev s_Pattern_radd : Stmt := inClass (top 20) 5
abbrev N_Pattern_radd : List Str := ["self", "other"]
theorem sc_Pattern_radd : FnScope N_Pattern_radd ["self", "other"] (defScope s_Pattern_radd) := ⟨rfl, rfl, rfl, by decide +kernel, rfl, by decide +kernel, by decide +kernel⟩
abbrev s_Pattern_len : Stmt := inClass (top 20) 6
abbrev N_Pattern_len : List Str := ["self"]
theorem sc_Pattern_len : FnScope N_Pattern_len ["self"] (defScope s_Pattern_len) := ⟨rfl, rfl, rfl, by decide +kernel, rfl, by decide +kernel, by decide +kernel⟩
abbrev s_Pattern_str : Stmt := inClass (top 20) 7
abbrev N_Pattern_str : List Str := ["self"]
theorem sc_Pattern_str : FnScope N_Pattern_str ["self"] (defScope s_Pattern_str) := ⟨rfl, rfl, rfl, by decide +kernel, rfl, by decide +kernel, by decide +kernel⟩
abbrev s_Pattern_repr : Stmt := inClass (top 20) 8
abbrev N_Pattern_repr : List Str := ["self"]
theorem sc_Pattern_repr : FnScope N_Pattern_repr ["self"] (defScope s_Pattern_repr) := ⟨rfl, rfl, rfl, by decide +kernel, rfl, by decide +kernel, by decide +kernel⟩
abbrev s_Pattern_eq : Stmt := inClass (top 20) 9
abbrev N_Pattern_eq : List Str := ["self", "other"]
theorem sc_Pattern_eq : FnScope N_Pattern_eq ["self", "other"] (defScope s_Pattern_eq) := ⟨rfl, rfl, rfl, by decide +kernel, rfl, by decide +kernel, by decide +kernel⟩
abbrev s_is_far : Stmt := top 27
abbrev N_is_far : List Str := ["value"]
theorem sc_is_far : FnScope N_is_far ["value"] (defScope s_is_far) := ⟨rfl, rfl, rfl, by decide +kernel, rfl, by decide +kernel, by decide +kernel⟩
abbrev s_want_distance : Stmt := top 28
abbrev N_want_distance : List Str := ["value"]
theorem sc_want_distance : FnScope N_want_distance ["value"] (defScope s_want_distance) := ⟨rfl, rfl, rfl, by decide +kernel, rfl, by decide +kernel, by decide +kernel⟩
abbrev s_Row_init : Stmt := inClass (top 29) 1
abbrev N_Row_init : List Str := ["self", "words", "far", "word"]
theorem sc_Row_init : FnScope N_Row_init ["self", "words", "far"] (defScope s_Row_init) := ⟨rfl, rfl, rfl, by decide +kernel, rfl, by decide +kernel, by decide +kernel⟩
abbrev s_Row_set_far : Stmt := inClass (top 29) 4
abbrev N_Row_set_far : List Str := ["self", "value"]
theorem sc_Row_set_far : FnScope N_Row_set_far ["self", "value"] (defScope s_Row_set_far) := ⟨rfl, rfl, rfl, by decide +kernel, rfl, by decide +kernel, by decide +kernel⟩
abbrev s_Row_word_at : Stmt := inClass (top 29) 5
abbrev N_Row_word_at : List Str := ["self", "distance"]
theorem sc_Row_word_at : FnScope N_Row_word_at ["self", "distance"] (defScope s_Row_word_at) := ⟨rfl, rfl, rfl, by decide +kernel, rfl, by decide +kernel, by decide +kernel⟩
abbrev s_Row_has_pattern : Stmt := inClass (top 29) 6
abbrev N_Row_has_pattern : List Str := ["self"]
theorem sc_Row_has_pattern : FnScope N_Row_has_pattern ["self"] (defScope s_Row_has_pattern) := ⟨rfl, rfl, rfl, by decide +kernel, rfl, by decide +kernel, by decide +kernel⟩
abbrev s_Row_width : Stmt := inClass (top 29) 7
abbrev N_Row_width : List Str := ["self", "d"]
theorem sc_Row_width : FnScope N_Row_width ["self", "d"] (defScope s_Row_width) := ⟨rfl, rfl, rfl, by decide +kernel, rfl, by decide +kernel, by decide +kernel⟩
abbrev s_Row_told : Stmt := inClass (top 29) 8
abbrev N_Row_told : List Str := ["self"]
theorem sc_Row_told : FnScope N_Row_told ["self"] (defScope s_Row_told) := ⟨rfl, rfl, rfl, by decide +kernel, rfl, by decide +kernel, by decide +kernel⟩
abbrev s_Row_widths : Stmt := inClass (top 29) 9
abbrev N_Row_widths : List Str := ["self", "distance"]
theorem sc_Row_widths : FnScope N_Row_widths ["self"] (defScope s_Row_widths) := ⟨rfl, rfl, rfl, by decide +kernel, rfl, by decide +kernel, by decide +kernel⟩
abbrev s_Row_forward_fault : Stmt := inClass (top 29) 10
abbrev N_Row_forward_fault : List Str := ["self", "found", "distance", "step"]
theorem sc_Row_forward_fault : FnScope N_Row_forward_fault ["self"] (defScope s_Row_forward_fault) := ⟨rfl, rfl, rfl, by decide +kernel, rfl, by decide +kernel, by decide +kernel⟩
abbrev s_Row_backward_fault : Stmt := inClass (top 29) 11
abbrev N_Row_backward_fault : List Str := ["self", "found", "distance", "step"]
theorem sc_Row_backward_fault : FnScope N_Row_backward_fault ["self"] (defScope s_Row_backward_fault) := ⟨rfl, rfl, rfl, by decide +kernel, rfl, by decide +kernel, by decide +kernel⟩
abbrev s_Row_copy : Stmt := inClass (top 29) 12
abbrev N_Row_copy : List Str := ["self"]
theorem sc_Row_copy : FnScope N_Row_copy ["self"] (defScope s_Row_copy) := ⟨rfl, rfl, rfl, by decide +kernel, rfl, by decide +kernel, by decide +kernel⟩
abbrev s_Row_is_narrow_beside : Stmt := inClass (top 29) 13
abbrev N_Row_is_narrow_beside : List Str := ["self", "other", "most", "distance"]
theorem sc_Row_is_narrow_beside : FnScope N_Row_is_narrow_beside ["self", "other"] (defScope s_Row_is_narrow_beside) := ⟨rfl, rfl, rfl, by decide +kernel, rfl, by decide +kernel, by decide +kernel⟩
abbrev s_Row_getitem : Stmt := inClass (top 29) 14
abbrev N_Row_getitem : List Str := ["self", "at"]
theorem sc_Row_getitem : FnScope N_Row_getitem ["self", "at"] (defScope s_Row_getitem) := ⟨rfl, rfl, rfl, by decide +kernel, rfl, by decide +kernel, by decide +kernel⟩
abbrev s_Row_setitem : Stmt := inClass (top 29) 15
abbrev N_Row_setitem : List Str := ["self", "at", "worth"]
theorem sc_Row_setitem : FnScope N_Row_setitem ["self", "at", "worth"] (defScope s_Row_setitem) := ⟨rfl, rfl, rfl, by decide +kernel, rfl, by decide +kernel, by decide +kernel⟩
abbrev s_Row_iter : Stmt := inClass (top 29) 16
abbrev N_Row_iter : List Str := ["self"]
theorem sc_Row_iter : FnScope N_Row_iter ["self"] (defScope s_Row_iter) := ⟨rfl, rfl, rfl, by decide +kernel, rfl, by decide +kernel, by decide +kernel⟩
abbrev s_Row_len : Stmt := inClass (top 29) 17
abbrev N_Row_len : List Str := ["self"]
theorem sc_Row_len : FnScope N_Row_len ["self"] (defScope s_Row_len) := ⟨rfl, rfl, rfl, by decide +kernel, rfl, by decide +kernel, by decide +kernel⟩
abbrev s_Row_eq : Stmt := inClass (top 29) 18
abbrev N_Row_eq : List Str := ["self", "other"]
theorem sc_Row_eq : FnScope N_Row_eq ["self", "other"] (defScope s_Row_eq) := ⟨rfl, rfl, rfl, by decide +kernel, rfl, by decide +kernel, by decide +kernel⟩
abbrev s_Row_le : Stmt := inClass (top 29) 19
abbrev N_Row_le : List Str := ["self", "other"]
theorem sc_Row_le : FnScope N_Row_le ["self", "other"] (defScope s_Row_le) := ⟨rfl, rfl, rfl, by decide +kernel, rfl, by decide +kernel, by decide +kernel⟩
abbrev s_Row_lt : Stmt := inClass (top 29) 20
abbrev N_Row_lt : List Str := ["self", "other"]
theorem sc_Row_lt : FnScope N_Row_lt ["self", "other"] (defScope s_Row_lt) := ⟨rfl, rfl, rfl, by decide +kernel, rfl, by decide +kernel, by decide +kernel⟩
abbrev s__law_rng : Stmt := top 31
abbrev N__law_rng : List Str := ["_law_script", "_law_k", "_law_cell"]
theorem sc__law_rng : FnScope N__law_rng ["_law_script", "_law_k"] (defScope s__law_rng) := ⟨rfl, rfl, rfl, by decide +kernel, rfl, by decide +kernel, by decide +kernel⟩
abbrev s__law_draw : Stmt := top 32
abbrev N__law_draw : List Str := ["_law_rng_here", "_law_sides", "_law_digit"]
theorem sc__law_draw : FnScope N__law_draw ["_law_rng_here", "_law_sides"] (defScope s__law_draw) := ⟨rfl, rfl, rfl, by decide +kernel, rfl, by decide +kernel, by decide +kernel⟩
abbrev s__law_choice : Stmt := top 33
abbrev N__law_choice : List Str := ["_law_rng_here", "_law_some"]
theorem sc__law_choice : FnScope N__law_choice ["_law_rng_here", "_law_some"] (defScope s__law_choice) := ⟨rfl, rfl, rfl, by decide +kernel, rfl, by decide +kernel, by decide +kernel⟩
abbrev s__law_word : Stmt := top 34
abbrev N__law_word : List Str := ["_law_rng_here", "_law_size", "_law_signs", "_law_turn"]
theorem sc__law_word : FnScope N__law_word ["_law_rng_here", "_law_size"] (defScope s__law_word) := ⟨rfl, rfl, rfl, by decide +kernel, rfl, by decide +kernel, by decide +kernel⟩
abbrev s__law_any_word : Stmt := top 35
abbrev N__law_any_word : List Str := ["_law_rng_here"]
theorem sc__law_any_word : FnScope N__law_any_word ["_law_rng_here"] (defScope s__law_any_word) := ⟨rfl, rfl, rfl, by decide +kernel, rfl, by decide +kernel, by decide +kernel⟩
abbrev s__law_pattern_text : Stmt := top 36
abbrev N__law_pattern_text : List Str := ["_law_rng_here", "_law_word_here", "_law_at_here"]
theorem sc__law_pattern_text : FnScope N__law_pattern_text ["_law_rng_here"] (defScope s__law_pattern_text) := ⟨rfl, rfl, rfl, by decide +kernel, rfl, by decide +kernel, by decide +kernel⟩
abbrev s__law_plan : Stmt := top 37
abbrev N__law_plan : List Str := ["_law_rng_here", "_law_terms", "_law_turn"]
theorem sc__law_plan : FnScope N__law_plan ["_law_rng_here"] (defScope s__law_plan) := ⟨rfl, rfl, rfl, by decide +kernel, rfl, by decide +kernel, by decide +kernel⟩
abbrev s__law_far : Stmt := top 38
abbrev N__law_far : List Str := ["_law_spelt"]
theorem sc__law_far : FnScope N__law_far ["_law_spelt"] (defScope s__law_far) := ⟨rfl, rfl, rfl, by decide +kernel, rfl, by decide +kernel, by decide +kernel⟩
abbrev s__law_real : Stmt := top 39
abbrev N__law_real : List Str := ["_law_plan_here"]
theorem sc__law_real : FnScope N__law_real ["_law_plan_here"] (defScope s__law_real) := ⟨rfl, rfl, rfl, by decide +kernel, rfl, by decide +kernel, by decide +kernel⟩
abbrev s__law_at : Stmt := top 40
abbrev N__law_at : List Str := ["_law_plan_here", "_law_distance"]
theorem sc__law_at : FnScope N__law_at ["_law_plan_here", "_law_distance"] (defScope s__law_at) := ⟨rfl, rfl, rfl, by decide +kernel, rfl, by decide +kernel, by decide +kernel⟩
abbrev s__law_fault : Stmt := top 41
abbrev N__law_fault : List Str := ["_law_plan_here", "_law_is_forward", "_law_distance", "_law_step"]
theorem sc__law_fault : FnScope N__law_fault ["_law_plan_here", "_law_is_forward"] (defScope s__law_fault) := ⟨rfl, rfl, rfl, by decide +kernel, rfl, by decide +kernel, by decide +kernel⟩
abbrev s__law_smooth : Stmt := top 42
abbrev N__law_smooth : List Str := ["_law_rng_here", "_law_is_forward", "_law_width", "_law_terms", "_law_turn", "_law_is_pattern"]
theorem sc__law_smooth : FnScope N__law_smooth ["_law_rng_here", "_law_is_forward"] (defScope s__law_smooth) := ⟨rfl, rfl, rfl, by decide +kernel, rfl, by decide +kernel, by decide +kernel⟩
abbrev s__law_is_right : Stmt := top 43
abbrev N__law_is_right : List Str := ["_law_made", "_law_plan_here", "_law_due"]
theorem sc__law_is_right : FnScope N__law_is_right ["_law_made", "_law_plan_here"] (defScope s__law_is_right) := ⟨rfl, rfl, rfl, by decide +kernel, rfl, by decide +kernel, by decide +kernel⟩
abbrev s__law_changed : Stmt := top 44
abbrev N__law_changed : List Str := ["_law_rng_here", "_law_made", "_law_plan_here", "_law_at_here", "_law_wide", "_law_word_here", "_law_terms", "_law_distance"]
theorem sc__law_changed : FnScope N__law_changed ["_law_rng_here", "_law_made", "_law_plan_here"] (defScope s__law_changed) := ⟨rfl, rfl, rfl, by decide +kernel, rfl, by decide +kernel, by decide +kernel⟩
abbrev s__law_right : Stmt := top 45
abbrev N__law_right : List Str := ["_law_rng_here", "_law_plan_here", "_law_made", "_law_turn", "_law_spelt", "_law_forward", "_law_backward"]
theorem sc__law_right : FnScope N__law_right ["_law_rng_here"] (defScope s__law_right) := ⟨rfl, rfl, rfl, by decide +kernel, rfl, by decide +kernel, by decide +kernel⟩
abbrev s__law_far_faults_right : Stmt := top 46
abbrev N__law_far_faults_right : List Str := ["_law_row", "_law_told", "_law_wide", "_law_thin", "_law_due"]
theorem sc__law_far_faults_right : FnScope N__law_far_faults_right [] (defScope s__law_far_faults_right) := ⟨rfl, rfl, rfl, by decide +kernel, rfl, by decide +kernel, by decide +kernel⟩
abbrev s_law : Stmt := top 47
abbrev N_law : List Str := ["_law_script", "_law_k"]
theorem sc_law : FnScope N_law ["_law_script"] (defScope s_law) := ⟨rfl, rfl, rfl, by decide +kernel, rfl, by decide +kernel, by decide +kernel⟩
structure TX (K : PySem.W.Frag) (mg : Str → Option Value) : Prop where
  d_is_integer : ∃ fd, FunD K "is_integer" "is_integer" (defArgs s_is_integer) (defBody s_is_integer) (defScope s_is_integer) ([].map (He.Dv.v K)) [] (He.ga K "is_integer") fd
  d_is_count : ∃ fd, FunD K "is_count" "is_count" (defArgs s_is_count) (defBody s_is_count) (defScope s_is_count) ([].map (He.Dv.v K)) [] (He.ga K "is_count") fd
  d_is_list : ∃ fd, FunD K "is_list" "is_list" (defArgs s_is_list) (defBody s_is_list) (defScope s_is_list) ([].map (He.Dv.v K)) [] (He.ga K "is_list") fd
  d_is_character : ∃ fd, FunD K "is_character" "is_character" (defArgs s_is_character) (defBody s_is_character) (defScope s_is_character) ([].map (He.Dv.v K)) [] (He.ga K "is_character") fd
  d_is_word : ∃ fd, FunD K "is_word" "is_word" (defArgs s_is_word) (defBody s_is_word) (defScope s_is_word) ([].map (He.Dv.v K)) [] (He.ga K "is_word") fd
  d_is_pattern_text : ∃ fd, FunD K "is_pattern_text" "is_pattern_text" (defArgs s_is_pattern_text) (defBody s_is_pattern_text) (defScope s_is_pattern_text) ([].map (He.Dv.v K)) [] (He.ga K "is_pattern_text") fd
  d_Pattern_init : ∃ fd, FunD K "__init__" "Pattern.__init__" (defArgs s_Pattern_init) (defBody s_Pattern_init) (defScope s_Pattern_init) ([].map (He.Dv.v K)) [] (He.ma K (He.ga K "Pattern") "__init__") fd
  d_Pattern_filled : ∃ fd, FunD K "filled" "Pattern.filled" (defArgs s_Pattern_filled) (defBody s_Pattern_filled) (defScope s_Pattern_filled) ([].map (He.Dv.v K)) [] (He.ma K (He.ga K "Pattern") "filled") fd
  d_Pattern_width : ∃ fd, FunD K "width" "Pattern.width" (defArgs s_Pattern_width) (defBody s_Pattern_width) (defScope s_Pattern_width) ([].map (He.Dv.v K)) [] (He.ma K (He.ga K "Pattern") "width") fd
  d_Pattern_want_room : ∃ fd, FunD K "want_room" "Pattern.want_room" (defArgs s_Pattern_want_room) (defBody s_Pattern_want_room) (defScope s_Pattern_want_room) ([].map (He.Dv.v K)) [] (He.ma K (He.ga K "Pattern") "want_room") fd
  d_Pattern_add : ∃ fd, FunD K "__add__" "Pattern.__add__" (defArgs s_Pattern_add) (defBody s_Pattern_add) (defScope s_Pattern_add) ([].map (He.Dv.v K)) [] (He.ma K (He.ga K "Pattern") "__add__") fd
  d_Pattern_radd : ∃ fd, FunD K "__radd__" "Pattern.__radd__" (defArgs s_Pattern_radd) (defBody s_Pattern_radd) (defScope s_Pattern_radd) ([].map (He.Dv.v K)) [] (He.ma K (He.ga K "Pattern") "__radd__") fd
  d_Pattern_len : ∃ fd, FunD K "__len__" "Pattern.__len__" (defArgs s_Pattern_len) (defBody s_Pattern_len) (defScope s_Pattern_len) ([].map (He.Dv.v K)) [] (He.ma K (He.ga K "Pattern") "__len__") fd
  d_Pattern_str : ∃ fd, FunD K "__str__" "Pattern.__str__" (defArgs s_Pattern_str) (defBody s_Pattern_str) (defScope s_Pattern_str) ([].map (He.Dv.v K)) [] (He.ma K (He.ga K "Pattern") "__str__") fd
  d_Pattern_repr : ∃ fd, FunD K "__repr__" "Pattern.__repr__" (defArgs s_Pattern_repr) (defBody s_Pattern_repr) (defScope s_Pattern_repr) ([].map (He.Dv.v K)) [] (He.ma K (He.ga K "Pattern") "__repr__") fd
  d_Pattern_eq : ∃ fd, FunD K "__eq__" "Pattern.__eq__" (defArgs s_Pattern_eq) (defBody s_Pattern_eq) (defScope s_Pattern_eq) ([].map (He.Dv.v K)) [] (He.ma K (He.ga K "Pattern") "__eq__") fd
  d_is_far : ∃ fd, FunD K "is_far" "is_far" (defArgs s_is_far) (defBody s_is_far) (defScope s_is_far) ([].map (He.Dv.v K)) [] (He.ga K "is_far") fd
  d_want_distance : ∃ fd, FunD K "want_distance" "want_distance" (defArgs s_want_distance) (defBody s_want_distance) (defScope s_want_distance) ([].map (He.Dv.v K)) [] (He.ga K "want_distance") fd
  d_Row_init : ∃ fd, FunD K "__init__" "Row.__init__" (defArgs s_Row_init) (defBody s_Row_init) (defScope s_Row_init) ([.adr (He.dflAt ("Row", some "__init__") 0), .str ""].map (He.Dv.v K)) [] (He.ma K (He.ga K "Row") "__init__") fd
  d_Row_set_far : ∃ fd, FunD K "set_far" "Row.set_far" (defArgs s_Row_set_far) (defBody s_Row_set_far) (defScope s_Row_set_far) ([].map (He.Dv.v K)) [] (He.ma K (He.ga K "Row") "set_far") fd
  d_Row_word_at : ∃ fd, FunD K "word_at" "Row.word_at" (defArgs s_Row_word_at) (defBody s_Row_word_at) (defScope s_Row_word_at) ([].map (He.Dv.v K)) [] (He.ma K (He.ga K "Row") "word_at") fd
  d_Row_has_pattern : ∃ fd, FunD K "has_pattern" "Row.has_pattern" (defArgs s_Row_has_pattern) (defBody s_Row_has_pattern) (defScope s_Row_has_pattern) ([].map (He.Dv.v K)) [] (He.ma K (He.ga K "Row") "has_pattern") fd
  d_Row_width : ∃ fd, FunD K "width" "Row.width" (defArgs s_Row_width) (defBody s_Row_width) (defScope s_Row_width) ([].map (He.Dv.v K)) [] (He.ma K (He.ga K "Row") "width") fd
  d_Row_told : ∃ fd, FunD K "told" "Row.told" (defArgs s_Row_told) (defBody s_Row_told) (defScope s_Row_told) ([].map (He.Dv.v K)) [] (He.ma K (He.ga K "Row") "told") fd
  d_Row_widths : ∃ fd, FunD K "widths" "Row.widths" (defArgs s_Row_widths) (defBody s_Row_widths) (defScope s_Row_widths) ([].map (He.Dv.v K)) [] (He.ma K (He.ga K "Row") "widths") fd
  d_Row_forward_fault : ∃ fd, FunD K "forward_fault" "Row.forward_fault" (defArgs s_Row_forward_fault) (defBody s_Row_forward_fault) (defScope s_Row_forward_fault) ([].map (He.Dv.v K)) [] (He.ma K (He.ga K "Row") "forward_fault") fd
  d_Row_backward_fault : ∃ fd, FunD K "backward_fault" "Row.backward_fault" (defArgs s_Row_backward_fault) (defBody s_Row_backward_fault) (defScope s_Row_backward_fault) ([].map (He.Dv.v K)) [] (He.ma K (He.ga K "Row") "backward_fault") fd
  d_Row_copy : ∃ fd, FunD K "copy" "Row.copy" (defArgs s_Row_copy) (defBody s_Row_copy) (defScope s_Row_copy) ([].map (He.Dv.v K)) [] (He.ma K (He.ga K "Row") "copy") fd
  d_Row_is_narrow_beside : ∃ fd, FunD K "is_narrow_beside" "Row.is_narrow_beside" (defArgs s_Row_is_narrow_beside) (defBody s_Row_is_narrow_beside) (defScope s_Row_is_narrow_beside) ([].map (He.Dv.v K)) [] (He.ma K (He.ga K "Row") "is_narrow_beside") fd
  d_Row_getitem : ∃ fd, FunD K "__getitem__" "Row.__getitem__" (defArgs s_Row_getitem) (defBody s_Row_getitem) (defScope s_Row_getitem) ([].map (He.Dv.v K)) [] (He.ma K (He.ga K "Row") "__getitem__") fd
  d_Row_setitem : ∃ fd, FunD K "__setitem__" "Row.__setitem__" (defArgs s_Row_setitem) (defBody s_Row_setitem) (defScope s_Row_setitem) ([].map (He.Dv.v K)) [] (He.ma K (He.ga K "Row") "__setitem__") fd
  d_Row_iter : ∃ fd, FunD K "__iter__" "Row.__iter__" (defArgs s_Row_iter) (defBody s_Row_iter) (defScope s_Row_iter) ([].map (He.Dv.v K)) [] (He.ma K (He.ga K "Row") "__iter__") fd
  d_Row_len : ∃ fd, FunD K "__len__" "Row.__len__" (defArgs s_Row_len) (defBody s_Row_len) (defScope s_Row_len) ([].map (He.Dv.v K)) [] (He.ma K (He.ga K "Row") "__len__") fd
  d_Row_eq : ∃ fd, FunD K "__eq__" "Row.__eq__" (defArgs s_Row_eq) (defBody s_Row_eq) (defScope s_Row_eq) ([].map (He.Dv.v K)) [] (He.ma K (He.ga K "Row") "__eq__") fd
  d_Row_le : ∃ fd, FunD K "__le__" "Row.__le__" (defArgs s_Row_le) (defBody s_Row_le) (defScope s_Row_le) ([].map (He.Dv.v K)) [] (He.ma K (He.ga K "Row") "__le__") fd
  d_Row_lt : ∃ fd, FunD K "__lt__" "Row.__lt__" (defArgs s_Row_lt) (defBody s_Row_lt) (defScope s_Row_lt) ([].map (He.Dv.v K)) [] (He.ma K (He.ga K "Row") "__lt__") fd
  d__law_rng : ∃ fd, FunD K "_law_rng" "_law_rng" (defArgs s__law_rng) (defBody s__law_rng) (defScope s__law_rng) ([].map (He.Dv.v K)) [] (He.ga K "_law_rng") fd
  d__law_draw : ∃ fd, FunD K "_law_draw" "_law_draw" (defArgs s__law_draw) (defBody s__law_draw) (defScope s__law_draw) ([].map (He.Dv.v K)) [] (He.ga K "_law_draw") fd
  d__law_choice : ∃ fd, FunD K "_law_choice" "_law_choice" (defArgs s__law_choice) (defBody s__law_choice) (defScope s__law_choice) ([].map (He.Dv.v K)) [] (He.ga K "_law_choice") fd
  d__law_word : ∃ fd, FunD K "_law_word" "_law_word" (defArgs s__law_word) (defBody s__law_word) (defScope s__law_word) ([].map (He.Dv.v K)) [] (He.ga K "_law_word") fd
  d__law_any_word : ∃ fd, FunD K "_law_any_word" "_law_any_word" (defArgs s__law_any_word) (defBody s__law_any_word) (defScope s__law_any_word) ([].map (He.Dv.v K)) [] (He.ga K "_law_any_word") fd
  d__law_pattern_text : ∃ fd, FunD K "_law_pattern_text" "_law_pattern_text" (defArgs s__law_pattern_text) (defBody s__law_pattern_text) (defScope s__law_pattern_text) ([].map (He.Dv.v K)) [] (He.ga K "_law_pattern_text") fd
  d__law_plan : ∃ fd, FunD K "_law_plan" "_law_plan" (defArgs s__law_plan) (defBody s__law_plan) (defScope s__law_plan) ([].map (He.Dv.v K)) [] (He.ga K "_law_plan") fd
  d__law_far : ∃ fd, FunD K "_law_far" "_law_far" (defArgs s__law_far) (defBody s__law_far) (defScope s__law_far) ([].map (He.Dv.v K)) [] (He.ga K "_law_far") fd
  d__law_real : ∃ fd, FunD K "_law_real" "_law_real" (defArgs s__law_real) (defBody s__law_real) (defScope s__law_real) ([].map (He.Dv.v K)) [] (He.ga K "_law_real") fd
  d__law_at : ∃ fd, FunD K "_law_at" "_law_at" (defArgs s__law_at) (defBody s__law_at) (defScope s__law_at) ([].map (He.Dv.v K)) [] (He.ga K "_law_at") fd
  d__law_fault : ∃ fd, FunD K "_law_fault" "_law_fault" (defArgs s__law_fault) (defBody s__law_fault) (defScope s__law_fault) ([].map (He.Dv.v K)) [] (He.ga K "_law_fault") fd
  d__law_smooth : ∃ fd, FunD K "_law_smooth" "_law_smooth" (defArgs s__law_smooth) (defBody s__law_smooth) (defScope s__law_smooth) ([].map (He.Dv.v K)) [] (He.ga K "_law_smooth") fd
  d__law_is_right : ∃ fd, FunD K "_law_is_right" "_law_is_right" (defArgs s__law_is_right) (defBody s__law_is_right) (defScope s__law_is_right) ([].map (He.Dv.v K)) [] (He.ga K "_law_is_right") fd
  d__law_changed : ∃ fd, FunD K "_law_changed" "_law_changed" (defArgs s__law_changed) (defBody s__law_changed) (defScope s__law_changed) ([].map (He.Dv.v K)) [] (He.ga K "_law_changed") fd
  d__law_right : ∃ fd, FunD K "_law_right" "_law_right" (defArgs s__law_right) (defBody s__law_right) (defScope s__law_right) ([].map (He.Dv.v K)) [] (He.ga K "_law_right") fd
  d__law_far_faults_right : ∃ fd, FunD K "_law_far_faults_right" "_law_far_faults_right" (defArgs s__law_far_faults_right) (defBody s__law_far_faults_right) (defScope s__law_far_faults_right) ([].map (He.Dv.v K)) [] (He.ga K "_law_far_faults_right") fd
  d_law : ∃ fd, FunD K "law" "law" (defArgs s_law) (defBody s_law) (defScope s_law) ([].map (He.Dv.v K)) [] (He.ga K "law") fd
  g_is_integer : mg "is_integer" = some (.ref (He.ga K "is_integer"))
  g_is_count : mg "is_count" = some (.ref (He.ga K "is_count"))
  g_is_list : mg "is_list" = some (.ref (He.ga K "is_list"))
  g_is_character : mg "is_character" = some (.ref (He.ga K "is_character"))
  g_is_word : mg "is_word" = some (.ref (He.ga K "is_word"))
  g_is_pattern_text : mg "is_pattern_text" = some (.ref (He.ga K "is_pattern_text"))
  g_is_far : mg "is_far" = some (.ref (He.ga K "is_far"))
  g_want_distance : mg "want_distance" = some (.ref (He.ga K "want_distance"))
  g__law_rng : mg "_law_rng" = some (.ref (He.ga K "_law_rng"))
  g__law_draw : mg "_law_draw" = some (.ref (He.ga K "_law_draw"))
  g__law_choice : mg "_law_choice" = some (.ref (He.ga K "_law_choice"))
  g__law_word : mg "_law_word" = some (.ref (He.ga K "_law_word"))
  g__law_any_word : mg "_law_any_word" = some (.ref (He.ga K "_law_any_word"))
  g__law_pattern_text : mg "_law_pattern_text" = some (.ref (He.ga K "_law_pattern_text"))
  g__law_plan : mg "_law_plan" = some (.ref (He.ga K "_law_plan"))
  g__law_far : mg "_law_far" = some (.ref (He.ga K "_law_far"))
  g__law_real : mg "_law_real" = some (.ref (He.ga K "_law_real"))
  g__law_at : mg "_law_at" = some (.ref (He.ga K "_law_at"))
  g__law_fault : mg "_law_fault" = some (.ref (He.ga K "_law_fault"))
  g__law_smooth : mg "_law_smooth" = some (.ref (He.ga K "_law_smooth"))
  g__law_is_right : mg "_law_is_right" = some (.ref (He.ga K "_law_is_right"))
  g__law_changed : mg "_law_changed" = some (.ref (He.ga K "_law_changed"))
  g__law_right : mg "_law_right" = some (.ref (He.ga K "_law_right"))
  g__law_far_faults_right : mg "_law_far_faults_right" = some (.ref (He.ga K "_law_far_faults_right"))
  g_law : mg "law" = some (.ref (He.ga K "law"))
  g_Pattern : mg "Pattern" = some (.ref (He.ga K "Pattern"))
  c_Pattern : Cls K (He.ga K "Pattern")
  mk_Pattern : Mk K (He.ga K "Pattern") (He.ma K (He.ga K "Pattern") "__init__")
  ty_Pattern : insB "Pattern" K = true
  na_Pattern_own_ahead : NoAttr K (He.ga K "Pattern") "own_ahead"
  na_Pattern_own_behind : NoAttr K (He.ga K "Pattern") "own_behind"
  na_Pattern_own_text : NoAttr K (He.ga K "Pattern") "own_text"
  is_str_Pattern : PySem.W.kitOne K (.type "str") (.ref (He.ga K "Pattern")) = some false
  is_int_Pattern : PySem.W.kitOne K (.type "int") (.ref (He.ga K "Pattern")) = some false
  is_bool_Pattern : PySem.W.kitOne K (.type "bool") (.ref (He.ga K "Pattern")) = some false
  is_list_Pattern : PySem.W.kitOne K (.type "list") (.ref (He.ga K "Pattern")) = some false
  is_tuple_Pattern : PySem.W.kitOne K (.type "tuple") (.ref (He.ga K "Pattern")) = some false
  is_NoneType_Pattern : PySem.W.kitOne K (.type "NoneType") (.ref (He.ga K "Pattern")) = some false
  is_dict_Pattern : PySem.W.kitOne K (.type "dict") (.ref (He.ga K "Pattern")) = some false
  is_Pattern_str : PySem.W.kitOne K (.ref (He.ga K "Pattern")) (.type "str") = some false
  is_Pattern_int : PySem.W.kitOne K (.ref (He.ga K "Pattern")) (.type "int") = some false
  is_Pattern_bool : PySem.W.kitOne K (.ref (He.ga K "Pattern")) (.type "bool") = some false
  is_Pattern_list : PySem.W.kitOne K (.ref (He.ga K "Pattern")) (.type "list") = some false
  is_Pattern_tuple : PySem.W.kitOne K (.ref (He.ga K "Pattern")) (.type "tuple") = some false
  is_Pattern_dict : PySem.W.kitOne K (.ref (He.ga K "Pattern")) (.type "dict") = some false
  is_Pattern_Pattern : PySem.W.kitOne K (.ref (He.ga K "Pattern")) (.ref (He.ga K "Pattern")) = some true
  is_Pattern_Row : PySem.W.kitOne K (.ref (He.ga K "Pattern")) (.ref (He.ga K "Row")) = some false
  g_Row : mg "Row" = some (.ref (He.ga K "Row"))
  c_Row : Cls K (He.ga K "Row")
  mk_Row : Mk K (He.ga K "Row") (He.ma K (He.ga K "Row") "__init__")
  ty_Row : insB "Row" K = true
  nq_Row : PySem.W.noSeq K (He.ga K "Row") = true
  na_Row_own_far : NoAttr K (He.ga K "Row") "own_far"
  na_Row_own_told : NoAttr K (He.ga K "Row") "own_told"
  is_str_Row : PySem.W.kitOne K (.type "str") (.ref (He.ga K "Row")) = some false
  is_int_Row : PySem.W.kitOne K (.type "int") (.ref (He.ga K "Row")) = some false
  is_bool_Row : PySem.W.kitOne K (.type "bool") (.ref (He.ga K "Row")) = some false
  is_list_Row : PySem.W.kitOne K (.type "list") (.ref (He.ga K "Row")) = some false
  is_tuple_Row : PySem.W.kitOne K (.type "tuple") (.ref (He.ga K "Row")) = some false
  is_NoneType_Row : PySem.W.kitOne K (.type "NoneType") (.ref (He.ga K "Row")) = some false
  is_dict_Row : PySem.W.kitOne K (.type "dict") (.ref (He.ga K "Row")) = some false
  is_Row_str : PySem.W.kitOne K (.ref (He.ga K "Row")) (.type "str") = some false
  is_Row_int : PySem.W.kitOne K (.ref (He.ga K "Row")) (.type "int") = some false
  is_Row_bool : PySem.W.kitOne K (.ref (He.ga K "Row")) (.type "bool") = some false
  is_Row_list : PySem.W.kitOne K (.ref (He.ga K "Row")) (.type "list") = some false
  is_Row_tuple : PySem.W.kitOne K (.ref (He.ga K "Row")) (.type "tuple") = some false
  is_Row_dict : PySem.W.kitOne K (.ref (He.ga K "Row")) (.type "dict") = some false
  is_Row_Pattern : PySem.W.kitOne K (.ref (He.ga K "Row")) (.ref (He.ga K "Pattern")) = some false
  is_Row_Row : PySem.W.kitOne K (.ref (He.ga K "Row")) (.ref (He.ga K "Row")) = some true
  is_str_str : PySem.W.kitOne K (.type "str") (.type "str") = some true
  is_str_int : PySem.W.kitOne K (.type "str") (.type "int") = some false
  is_str_bool : PySem.W.kitOne K (.type "str") (.type "bool") = some false
  is_str_list : PySem.W.kitOne K (.type "str") (.type "list") = some false
  is_str_tuple : PySem.W.kitOne K (.type "str") (.type "tuple") = some false
  is_str_dict : PySem.W.kitOne K (.type "str") (.type "dict") = some false
  is_int_str : PySem.W.kitOne K (.type "int") (.type "str") = some false
  is_int_int : PySem.W.kitOne K (.type "int") (.type "int") = some true
  is_int_bool : PySem.W.kitOne K (.type "int") (.type "bool") = some false
  is_int_list : PySem.W.kitOne K (.type "int") (.type "list") = some false
  is_int_tuple : PySem.W.kitOne K (.type "int") (.type "tuple") = some false
  is_int_dict : PySem.W.kitOne K (.type "int") (.type "dict") = some false
  is_bool_str : PySem.W.kitOne K (.type "bool") (.type "str") = some false
  is_bool_int : PySem.W.kitOne K (.type "bool") (.type "int") = some true
  is_bool_bool : PySem.W.kitOne K (.type "bool") (.type "bool") = some true
  is_bool_list : PySem.W.kitOne K (.type "bool") (.type "list") = some false
  is_bool_tuple : PySem.W.kitOne K (.type "bool") (.type "tuple") = some false
  is_bool_dict : PySem.W.kitOne K (.type "bool") (.type "dict") = some false
  is_list_str : PySem.W.kitOne K (.type "list") (.type "str") = some false
  is_list_int : PySem.W.kitOne K (.type "list") (.type "int") = some false
  is_list_bool : PySem.W.kitOne K (.type "list") (.type "bool") = some false
  is_list_list : PySem.W.kitOne K (.type "list") (.type "list") = some true
  is_list_tuple : PySem.W.kitOne K (.type "list") (.type "tuple") = some false
  is_list_dict : PySem.W.kitOne K (.type "list") (.type "dict") = some false
  is_tuple_str : PySem.W.kitOne K (.type "tuple") (.type "str") = some false
  is_tuple_int : PySem.W.kitOne K (.type "tuple") (.type "int") = some false
  is_tuple_bool : PySem.W.kitOne K (.type "tuple") (.type "bool") = some false
  is_tuple_list : PySem.W.kitOne K (.type "tuple") (.type "list") = some false
  is_tuple_tuple : PySem.W.kitOne K (.type "tuple") (.type "tuple") = some true
  is_tuple_dict : PySem.W.kitOne K (.type "tuple") (.type "dict") = some false
  is_NoneType_str : PySem.W.kitOne K (.type "NoneType") (.type "str") = some false
  is_NoneType_int : PySem.W.kitOne K (.type "NoneType") (.type "int") = some false
  is_NoneType_bool : PySem.W.kitOne K (.type "NoneType") (.type "bool") = some false
  is_NoneType_list : PySem.W.kitOne K (.type "NoneType") (.type "list") = some false
  is_NoneType_tuple : PySem.W.kitOne K (.type "NoneType") (.type "tuple") = some false
  is_NoneType_dict : PySem.W.kitOne K (.type "NoneType") (.type "dict") = some false
  is_dict_str : PySem.W.kitOne K (.type "dict") (.type "str") = some false
  is_dict_int : PySem.W.kitOne K (.type "dict") (.type "int") = some false
  is_dict_bool : PySem.W.kitOne K (.type "dict") (.type "bool") = some false
  is_dict_list : PySem.W.kitOne K (.type "dict") (.type "list") = some false
  is_dict_tuple : PySem.W.kitOne K (.type "dict") (.type "tuple") = some false
  is_dict_dict : PySem.W.kitOne K (.type "dict") (.type "dict") = some true
  m_Pattern_filled : Meth K (He.ga K "Pattern") "filled" (He.ma K (He.ga K "Pattern") "filled")
  m_Pattern_width : Meth K (He.ga K "Pattern") "width" (He.ma K (He.ga K "Pattern") "width")
  m_Pattern_want_room : Meth K (He.ga K "Pattern") "want_room" (He.ma K (He.ga K "Pattern") "want_room")
  m_Pattern_add : Meth K (He.ga K "Pattern") "__add__" (He.ma K (He.ga K "Pattern") "__add__")
  m_Pattern_radd : Meth K (He.ga K "Pattern") "__radd__" (He.ma K (He.ga K "Pattern") "__radd__")
  m_Pattern_len : Meth K (He.ga K "Pattern") "__len__" (He.ma K (He.ga K "Pattern") "__len__")
  m_Pattern_str : Meth K (He.ga K "Pattern") "__str__" (He.ma K (He.ga K "Pattern") "__str__")
  m_Pattern_repr : Meth K (He.ga K "Pattern") "__repr__" (He.ma K (He.ga K "Pattern") "__repr__")
  m_Pattern_eq : Meth K (He.ga K "Pattern") "__eq__" (He.ma K (He.ga K "Pattern") "__eq__")
  m_Row_set_far : Meth K (He.ga K "Row") "set_far" (He.ma K (He.ga K "Row") "set_far")
  m_Row_word_at : Meth K (He.ga K "Row") "word_at" (He.ma K (He.ga K "Row") "word_at")
  m_Row_has_pattern : Meth K (He.ga K "Row") "has_pattern" (He.ma K (He.ga K "Row") "has_pattern")
  m_Row_width : Meth K (He.ga K "Row") "width" (He.ma K (He.ga K "Row") "width")
  m_Row_told : Meth K (He.ga K "Row") "told" (He.ma K (He.ga K "Row") "told")
  m_Row_widths : Meth K (He.ga K "Row") "widths" (He.ma K (He.ga K "Row") "widths")
  m_Row_forward_fault : Meth K (He.ga K "Row") "forward_fault" (He.ma K (He.ga K "Row") "forward_fault")
  m_Row_backward_fault : Meth K (He.ga K "Row") "backward_fault" (He.ma K (He.ga K "Row") "backward_fault")
  m_Row_copy : Meth K (He.ga K "Row") "copy" (He.ma K (He.ga K "Row") "copy")
  m_Row_is_narrow_beside : Meth K (He.ga K "Row") "is_narrow_beside" (He.ma K (He.ga K "Row") "is_narrow_beside")
  m_Row_getitem : Meth K (He.ga K "Row") "__getitem__" (He.ma K (He.ga K "Row") "__getitem__")
  m_Row_setitem : Meth K (He.ga K "Row") "__setitem__" (He.ma K (He.ga K "Row") "__setitem__")
  m_Row_iter : Meth K (He.ga K "Row") "__iter__" (He.ma K (He.ga K "Row") "__iter__")
  m_Row_len : Meth K (He.ga K "Row") "__len__" (He.ma K (He.ga K "Row") "__len__")
  m_Row_eq : Meth K (He.ga K "Row") "__eq__" (He.ma K (He.ga K "Row") "__eq__")
  m_Row_le : Meth K (He.ga K "Row") "__le__" (He.ma K (He.ga K "Row") "__le__")
  m_Row_lt : Meth K (He.ga K "Row") "__lt__" (He.ma K (He.ga K "Row") "__lt__")
  k_MOST_CHARACTERS : ∃ t, mg "MOST_CHARACTERS" = some (.int 20 t)
  k_BLANK : ∃ t, mg "BLANK" = some (.str " " t)
  k_HASH : ∃ t, mg "HASH" = some (.str "#" t)
  g_NOT_IN_WORDS : mg "NOT_IN_WORDS" = some (.ref (He.ga K "NOT_IN_WORDS"))
  k_NOT_IN_WORDS : ∀ H : Hp, SqT K H (He.ga K "NOT_IN_WORDS") [.int 34, .int 35, .int 37, .int 92]
  k_MOST_TOLD : ∃ t, mg "MOST_TOLD" = some (.int 8 t)
  k_SHRINKS : ∃ t, mg "SHRINKS" = some (.str "shrinks" t)
  k_JUMPS : ∃ t, mg "JUMPS" = some (.str "jumps" t)
  k_GROWS : ∃ t, mg "GROWS" = some (.str "grows" t)
  k_LAST_OF_ONE_DIGIT : ∃ t, mg "LAST_OF_ONE_DIGIT" = some (.int 9 t)
  b_abs : mg "abs" = none
  b_all : mg "all" = none
  b_bool : mg "bool" = none
  b_divmod : mg "divmod" = none
  b_enumerate : mg "enumerate" = none
  b_int : mg "int" = none
  b_isinstance : mg "isinstance" = none
  b_len : mg "len" = none
  b_list : mg "list" = none
  b_max : mg "max" = none
  b_min : mg "min" = none
  b_ord : mg "ord" = none
  b_range : mg "range" = none
  b_repr : mg "repr" = none
  b_str : mg "str" = none
  b_tuple : mg "tuple" = none
  e_Row_init_0 : ∀ H : Hp, SqT K H (He.dflAt ("Row", some "__init__") 0 K) []
  et_Row_init_0 : ∀ H : Hp, TyX K H (.ref (He.dflAt ("Row", some "__init__") 0 K)) (.type "tuple")
def looks : List (PySem.W.Frag → Bool) := [
  fun K => (He.Fa.glo "is_integer").ok K,
  fun K => (He.Fa.glo "is_count").ok K,
  fun K => (He.Fa.glo "is_list").ok K,
  fun K => (He.Fa.glo "is_character").ok K,
  fun K => (He.Fa.glo "is_word").ok K,
  fun K => (He.Fa.glo "is_pattern_text").ok K,
  fun K => (He.Fa.glo "is_far").ok K,
  fun K => (He.Fa.glo "want_distance").ok K,
  fun K => (He.Fa.glo "_law_rng").ok K,
  fun K => (He.Fa.glo "_law_draw").ok K,
  fun K => (He.Fa.glo "_law_choice").ok K,
  fun K => (He.Fa.glo "_law_word").ok K,
  fun K => (He.Fa.glo "_law_any_word").ok K,
  fun K => (He.Fa.glo "_law_pattern_text").ok K,
  fun K => (He.Fa.glo "_law_plan").ok K,
  fun K => (He.Fa.glo "_law_far").ok K,
  fun K => (He.Fa.glo "_law_real").ok K,
  fun K => (He.Fa.glo "_law_at").ok K,
  fun K => (He.Fa.glo "_law_fault").ok K,
  fun K => (He.Fa.glo "_law_smooth").ok K,
  fun K => (He.Fa.glo "_law_is_right").ok K,
  fun K => (He.Fa.glo "_law_changed").ok K,
  fun K => (He.Fa.glo "_law_right").ok K,
  fun K => (He.Fa.glo "_law_far_faults_right").ok K,
  fun K => (He.Fa.glo "law").ok K,
  fun K => (He.Fa.glo "Pattern").ok K,
  fun K => (He.Fa.cls "Pattern").ok K,
  fun K => (He.Fa.mkr "Pattern").ok K,
  insB "Pattern",
  fun K => (He.Fa.noat "Pattern" "own_ahead").ok K,
  fun K => (He.Fa.noat "Pattern" "own_behind").ok K,
  fun K => (He.Fa.noat "Pattern" "own_text").ok K,
  isB (fun _ => .type "str") (fun K => .ref (He.ga K "Pattern")) false,
  isB (fun _ => .type "int") (fun K => .ref (He.ga K "Pattern")) false,
  isB (fun _ => .type "bool") (fun K => .ref (He.ga K "Pattern")) false,
  isB (fun _ => .type "list") (fun K => .ref (He.ga K "Pattern")) false,
  isB (fun _ => .type "tuple") (fun K => .ref (He.ga K "Pattern")) false,
  isB (fun _ => .type "NoneType") (fun K => .ref (He.ga K "Pattern")) false,
  isB (fun _ => .type "dict") (fun K => .ref (He.ga K "Pattern")) false,
  isB (fun K => .ref (He.ga K "Pattern")) (fun _ => .type "str") false,
  isB (fun K => .ref (He.ga K "Pattern")) (fun _ => .type "int") false,
  isB (fun K => .ref (He.ga K "Pattern")) (fun _ => .type "bool") false,
  isB (fun K => .ref (He.ga K "Pattern")) (fun _ => .type "list") false,
  isB (fun K => .ref (He.ga K "Pattern")) (fun _ => .type "tuple") false,
  isB (fun K => .ref (He.ga K "Pattern")) (fun _ => .type "dict") false,
  isB (fun K => .ref (He.ga K "Pattern")) (fun K => .ref (He.ga K "Pattern")) true,
  isB (fun K => .ref (He.ga K "Pattern")) (fun K => .ref (He.ga K "Row")) false,
  fun K => (He.Fa.glo "Row").ok K,
  fun K => (He.Fa.cls "Row").ok K,
  fun K => (He.Fa.mkr "Row").ok K,
  insB "Row",
  fun K => PySem.W.noSeq K (He.ga K "Row"),
  fun K => (He.Fa.noat "Row" "own_far").ok K,
  fun K => (He.Fa.noat "Row" "own_told").ok K,
  isB (fun _ => .type "str") (fun K => .ref (He.ga K "Row")) false,
  isB (fun _ => .type "int") (fun K => .ref (He.ga K "Row")) false,
  isB (fun _ => .type "bool") (fun K => .ref (He.ga K "Row")) false,
  isB (fun _ => .type "list") (fun K => .ref (He.ga K "Row")) false,
  isB (fun _ => .type "tuple") (fun K => .ref (He.ga K "Row")) false,
  isB (fun _ => .type "NoneType") (fun K => .ref (He.ga K "Row")) false,
  isB (fun _ => .type "dict") (fun K => .ref (He.ga K "Row")) false,
  isB (fun K => .ref (He.ga K "Row")) (fun _ => .type "str") false,
  isB (fun K => .ref (He.ga K "Row")) (fun _ => .type "int") false,
  isB (fun K => .ref (He.ga K "Row")) (fun _ => .type "bool") false,
  isB (fun K => .ref (He.ga K "Row")) (fun _ => .type "list") false,
  isB (fun K => .ref (He.ga K "Row")) (fun _ => .type "tuple") false,
  isB (fun K => .ref (He.ga K "Row")) (fun _ => .type "dict") false,
  isB (fun K => .ref (He.ga K "Row")) (fun K => .ref (He.ga K "Pattern")) false,
  isB (fun K => .ref (He.ga K "Row")) (fun K => .ref (He.ga K "Row")) true,
  isB (fun _ => .type "str") (fun _ => .type "str") true,
  isB (fun _ => .type "str") (fun _ => .type "int") false,
  isB (fun _ => .type "str") (fun _ => .type "bool") false,
  isB (fun _ => .type "str") (fun _ => .type "list") false,
  isB (fun _ => .type "str") (fun _ => .type "tuple") false,
  isB (fun _ => .type "str") (fun _ => .type "dict") false,
  isB (fun _ => .type "int") (fun _ => .type "str") false,
  isB (fun _ => .type "int") (fun _ => .type "int") true,
  isB (fun _ => .type "int") (fun _ => .type "bool") false,
  isB (fun _ => .type "int") (fun _ => .type "list") false,
  isB (fun _ => .type "int") (fun _ => .type "tuple") false,
  isB (fun _ => .type "int") (fun _ => .type "dict") false,
  isB (fun _ => .type "bool") (fun _ => .type "str") false,
  isB (fun _ => .type "bool") (fun _ => .type "int") true,
  isB (fun _ => .type "bool") (fun _ => .type "bool") true,
  isB (fun _ => .type "bool") (fun _ => .type "list") false,
  isB (fun _ => .type "bool") (fun _ => .type "tuple") false,
  isB (fun _ => .type "bool") (fun _ => .type "dict") false,
  isB (fun _ => .type "list") (fun _ => .type "str") false,
  isB (fun _ => .type "list") (fun _ => .type "int") false,
  isB (fun _ => .type "list") (fun _ => .type "bool") false,
  isB (fun _ => .type "list") (fun _ => .type "list") true,
  isB (fun _ => .type "list") (fun _ => .type "tuple") false,
  isB (fun _ => .type "list") (fun _ => .type "dict") false,
  isB (fun _ => .type "tuple") (fun _ => .type "str") false,
  isB (fun _ => .type "tuple") (fun _ => .type "int") false,
  isB (fun _ => .type "tuple") (fun _ => .type "bool") false,
  isB (fun _ => .type "tuple") (fun _ => .type "list") false,
  isB (fun _ => .type "tuple") (fun _ => .type "tuple") true,
  isB (fun _ => .type "tuple") (fun _ => .type "dict") false,
  isB (fun _ => .type "NoneType") (fun _ => .type "str") false,
  isB (fun _ => .type "NoneType") (fun _ => .type "int") false,
  isB (fun _ => .type "NoneType") (fun _ => .type "bool") false,
  isB (fun _ => .type "NoneType") (fun _ => .type "list") false,
  isB (fun _ => .type "NoneType") (fun _ => .type "tuple") false,
  isB (fun _ => .type "NoneType") (fun _ => .type "dict") false,
  isB (fun _ => .type "dict") (fun _ => .type "str") false,
  isB (fun _ => .type "dict") (fun _ => .type "int") false,
  isB (fun _ => .type "dict") (fun _ => .type "bool") false,
  isB (fun _ => .type "dict") (fun _ => .type "list") false,
  isB (fun _ => .type "dict") (fun _ => .type "tuple") false,
  isB (fun _ => .type "dict") (fun _ => .type "dict") true,
  fun K => (He.Fa.meth "Pattern" "filled").ok K,
  fun K => (He.Fa.meth "Pattern" "width").ok K,
  fun K => (He.Fa.meth "Pattern" "want_room").ok K,
  fun K => (He.Fa.meth "Pattern" "__add__").ok K,
  fun K => (He.Fa.meth "Pattern" "__radd__").ok K,
  fun K => (He.Fa.meth "Pattern" "__len__").ok K,
  fun K => (He.Fa.meth "Pattern" "__str__").ok K,
  fun K => (He.Fa.meth "Pattern" "__repr__").ok K,
  fun K => (He.Fa.meth "Pattern" "__eq__").ok K,
  fun K => (He.Fa.meth "Row" "set_far").ok K,
  fun K => (He.Fa.meth "Row" "word_at").ok K,
  fun K => (He.Fa.meth "Row" "has_pattern").ok K,
  fun K => (He.Fa.meth "Row" "width").ok K,
  fun K => (He.Fa.meth "Row" "told").ok K,
  fun K => (He.Fa.meth "Row" "widths").ok K,
  fun K => (He.Fa.meth "Row" "forward_fault").ok K,
  fun K => (He.Fa.meth "Row" "backward_fault").ok K,
  fun K => (He.Fa.meth "Row" "copy").ok K,
  fun K => (He.Fa.meth "Row" "is_narrow_beside").ok K,
  fun K => (He.Fa.meth "Row" "__getitem__").ok K,
  fun K => (He.Fa.meth "Row" "__setitem__").ok K,
  fun K => (He.Fa.meth "Row" "__iter__").ok K,
  fun K => (He.Fa.meth "Row" "__len__").ok K,
  fun K => (He.Fa.meth "Row" "__eq__").ok K,
  fun K => (He.Fa.meth "Row" "__le__").ok K,
  fun K => (He.Fa.meth "Row" "__lt__").ok K,
  fun K => (He.Fa.int "MOST_CHARACTERS" 20).ok K,
  fun K => (He.Fa.str "BLANK" " ").ok K,
  fun K => (He.Fa.str "HASH" "#").ok K,
  fun K => (He.Fa.glo "NOT_IN_WORDS").ok K,
  fun K => He.tupB K "NOT_IN_WORDS" [.int 34, .int 35, .int 37, .int 92],
  fun K => (He.Fa.int "MOST_TOLD" 8).ok K,
  fun K => (He.Fa.str "SHRINKS" "shrinks").ok K,
  fun K => (He.Fa.str "JUMPS" "jumps").ok K,
  fun K => (He.Fa.str "GROWS" "grows").ok K,
  fun K => (He.Fa.int "LAST_OF_ONE_DIGIT" 9).ok K,
  fun K => (He.Fa.free "abs").ok K,
  fun K => (He.Fa.free "all").ok K,
  fun K => (He.Fa.free "bool").ok K,
  fun K => (He.Fa.free "divmod").ok K,
  fun K => (He.Fa.free "enumerate").ok K,
  fun K => (He.Fa.free "int").ok K,
  fun K => (He.Fa.free "isinstance").ok K,
  fun K => (He.Fa.free "len").ok K,
  fun K => (He.Fa.free "list").ok K,
  fun K => (He.Fa.free "max").ok K,
  fun K => (He.Fa.free "min").ok K,
  fun K => (He.Fa.free "ord").ok K,
  fun K => (He.Fa.free "range").ok K,
  fun K => (He.Fa.free "repr").ok K,
  fun K => (He.Fa.free "str").ok K,
  fun K => (He.Fa.free "tuple").ok K,
  fun K => tupAtB K (He.dflAt ("Row", some "__init__") 0 K),
  fun K => tupAtB K (He.dflAt ("Row", some "__init__") 0 K)]
def defns : List He.DefD := [
  ⟨("is_integer", none), "is_integer", "is_integer", defArgs s_is_integer, defBody s_is_integer, defScope s_is_integer, [], []⟩,
  ⟨("is_count", none), "is_count", "is_count", defArgs s_is_count, defBody s_is_count, defScope s_is_count, [], []⟩,
  ⟨("is_list", none), "is_list", "is_list", defArgs s_is_list, defBody s_is_list, defScope s_is_list, [], []⟩,
  ⟨("is_character", none), "is_character", "is_character", defArgs s_is_character, defBody s_is_character, defScope s_is_character, [], []⟩,
  ⟨("is_word", none), "is_word", "is_word", defArgs s_is_word, defBody s_is_word, defScope s_is_word, [], []⟩,
  ⟨("is_pattern_text", none), "is_pattern_text", "is_pattern_text", defArgs s_is_pattern_text, defBody s_is_pattern_text, defScope s_is_pattern_text, [], []⟩,
  ⟨("Pattern", some "__init__"), "__init__", "Pattern.__init__", defArgs s_Pattern_init, defBody s_Pattern_init, defScope s_Pattern_init, [], []⟩,
  ⟨("Pattern", some "filled"), "filled", "Pattern.filled", defArgs s_Pattern_filled, defBody s_Pattern_filled, defScope s_Pattern_filled, [], []⟩,
  ⟨("Pattern", some "width"), "width", "Pattern.width", defArgs s_Pattern_width, defBody s_Pattern_width, defScope s_Pattern_width, [], []⟩,
  ⟨("Pattern", some "want_room"), "want_room", "Pattern.want_room", defArgs s_Pattern_want_room, defBody s_Pattern_want_room, defScope s_Pattern_want_room, [], []⟩,
  ⟨("Pattern", some "__add__"), "__add__", "Pattern.__add__", defArgs s_Pattern_add, defBody s_Pattern_add, defScope s_Pattern_add, [], []⟩,
  ⟨("Pattern", some "__radd__"), "__radd__", "Pattern.__radd__", defArgs s_Pattern_radd, defBody s_Pattern_radd, defScope s_Pattern_radd, [], []⟩,
  ⟨("Pattern", some "__len__"), "__len__", "Pattern.__len__", defArgs s_Pattern_len, defBody s_Pattern_len, defScope s_Pattern_len, [], []⟩,
  ⟨("Pattern", some "__str__"), "__str__", "Pattern.__str__", defArgs s_Pattern_str, defBody s_Pattern_str, defScope s_Pattern_str, [], []⟩,
  ⟨("Pattern", some "__repr__"), "__repr__", "Pattern.__repr__", defArgs s_Pattern_repr, defBody s_Pattern_repr, defScope s_Pattern_repr, [], []⟩,
  ⟨("Pattern", some "__eq__"), "__eq__", "Pattern.__eq__", defArgs s_Pattern_eq, defBody s_Pattern_eq, defScope s_Pattern_eq, [], []⟩,
  ⟨("is_far", none), "is_far", "is_far", defArgs s_is_far, defBody s_is_far, defScope s_is_far, [], []⟩,
  ⟨("want_distance", none), "want_distance", "want_distance", defArgs s_want_distance, defBody s_want_distance, defScope s_want_distance, [], []⟩,
  ⟨("Row", some "__init__"), "__init__", "Row.__init__", defArgs s_Row_init, defBody s_Row_init, defScope s_Row_init, [.adr (He.dflAt ("Row", some "__init__") 0), .str ""], []⟩,
  ⟨("Row", some "set_far"), "set_far", "Row.set_far", defArgs s_Row_set_far, defBody s_Row_set_far, defScope s_Row_set_far, [], []⟩,
  ⟨("Row", some "word_at"), "word_at", "Row.word_at", defArgs s_Row_word_at, defBody s_Row_word_at, defScope s_Row_word_at, [], []⟩,
  ⟨("Row", some "has_pattern"), "has_pattern", "Row.has_pattern", defArgs s_Row_has_pattern, defBody s_Row_has_pattern, defScope s_Row_has_pattern, [], []⟩,
  ⟨("Row", some "width"), "width", "Row.width", defArgs s_Row_width, defBody s_Row_width, defScope s_Row_width, [], []⟩,
  ⟨("Row", some "told"), "told", "Row.told", defArgs s_Row_told, defBody s_Row_told, defScope s_Row_told, [], []⟩,
  ⟨("Row", some "widths"), "widths", "Row.widths", defArgs s_Row_widths, defBody s_Row_widths, defScope s_Row_widths, [], []⟩,
  ⟨("Row", some "forward_fault"), "forward_fault", "Row.forward_fault", defArgs s_Row_forward_fault, defBody s_Row_forward_fault, defScope s_Row_forward_fault, [], []⟩,
  ⟨("Row", some "backward_fault"), "backward_fault", "Row.backward_fault", defArgs s_Row_backward_fault, defBody s_Row_backward_fault, defScope s_Row_backward_fault, [], []⟩,
  ⟨("Row", some "copy"), "copy", "Row.copy", defArgs s_Row_copy, defBody s_Row_copy, defScope s_Row_copy, [], []⟩,
  ⟨("Row", some "is_narrow_beside"), "is_narrow_beside", "Row.is_narrow_beside", defArgs s_Row_is_narrow_beside, defBody s_Row_is_narrow_beside, defScope s_Row_is_narrow_beside, [], []⟩,
  ⟨("Row", some "__getitem__"), "__getitem__", "Row.__getitem__", defArgs s_Row_getitem, defBody s_Row_getitem, defScope s_Row_getitem, [], []⟩,
  ⟨("Row", some "__setitem__"), "__setitem__", "Row.__setitem__", defArgs s_Row_setitem, defBody s_Row_setitem, defScope s_Row_setitem, [], []⟩,
  ⟨("Row", some "__iter__"), "__iter__", "Row.__iter__", defArgs s_Row_iter, defBody s_Row_iter, defScope s_Row_iter, [], []⟩,
  ⟨("Row", some "__len__"), "__len__", "Row.__len__", defArgs s_Row_len, defBody s_Row_len, defScope s_Row_len, [], []⟩,
  ⟨("Row", some "__eq__"), "__eq__", "Row.__eq__", defArgs s_Row_eq, defBody s_Row_eq, defScope s_Row_eq, [], []⟩,
  ⟨("Row", some "__le__"), "__le__", "Row.__le__", defArgs s_Row_le, defBody s_Row_le, defScope s_Row_le, [], []⟩,
  ⟨("Row", some "__lt__"), "__lt__", "Row.__lt__", defArgs s_Row_lt, defBody s_Row_lt, defScope s_Row_lt, [], []⟩,
  ⟨("_law_rng", none), "_law_rng", "_law_rng", defArgs s__law_rng, defBody s__law_rng, defScope s__law_rng, [], []⟩,
  ⟨("_law_draw", none), "_law_draw", "_law_draw", defArgs s__law_draw, defBody s__law_draw, defScope s__law_draw, [], []⟩,
  ⟨("_law_choice", none), "_law_choice", "_law_choice", defArgs s__law_choice, defBody s__law_choice, defScope s__law_choice, [], []⟩,
  ⟨("_law_word", none), "_law_word", "_law_word", defArgs s__law_word, defBody s__law_word, defScope s__law_word, [], []⟩,
  ⟨("_law_any_word", none), "_law_any_word", "_law_any_word", defArgs s__law_any_word, defBody s__law_any_word, defScope s__law_any_word, [], []⟩,
  ⟨("_law_pattern_text", none), "_law_pattern_text", "_law_pattern_text", defArgs s__law_pattern_text, defBody s__law_pattern_text, defScope s__law_pattern_text, [], []⟩,
  ⟨("_law_plan", none), "_law_plan", "_law_plan", defArgs s__law_plan, defBody s__law_plan, defScope s__law_plan, [], []⟩,
  ⟨("_law_far", none), "_law_far", "_law_far", defArgs s__law_far, defBody s__law_far, defScope s__law_far, [], []⟩,
  ⟨("_law_real", none), "_law_real", "_law_real", defArgs s__law_real, defBody s__law_real, defScope s__law_real, [], []⟩,
  ⟨("_law_at", none), "_law_at", "_law_at", defArgs s__law_at, defBody s__law_at, defScope s__law_at, [], []⟩,
  ⟨("_law_fault", none), "_law_fault", "_law_fault", defArgs s__law_fault, defBody s__law_fault, defScope s__law_fault, [], []⟩,
  ⟨("_law_smooth", none), "_law_smooth", "_law_smooth", defArgs s__law_smooth, defBody s__law_smooth, defScope s__law_smooth, [], []⟩,
  ⟨("_law_is_right", none), "_law_is_right", "_law_is_right", defArgs s__law_is_right, defBody s__law_is_right, defScope s__law_is_right, [], []⟩,
  ⟨("_law_changed", none), "_law_changed", "_law_changed", defArgs s__law_changed, defBody s__law_changed, defScope s__law_changed, [], []⟩,
  ⟨("_law_right", none), "_law_right", "_law_right", defArgs s__law_right, defBody s__law_right, defScope s__law_right, [], []⟩,
  ⟨("_law_far_faults_right", none), "_law_far_faults_right", "_law_far_faults_right", defArgs s__law_far_faults_right, defBody s__law_far_faults_right, defScope s__law_far_faults_right, [], []⟩,
  ⟨("law", none), "law", "law", defArgs s_law, defBody s_law, defScope s_law, [], []⟩]
theorem tx_of {K : PySem.W.Frag} {h : Heap} {mg : Str → Option Value} (X : K.In h) (G : h.Ns mainGlobals mg) (s : SaysX looks defns K) : TX K mg where
  d_is_integer := s.defd 0
  d_is_count := s.defd 1
  d_is_list := s.defd 2
  d_is_character := s.defd 3
  d_is_word := s.defd 4
  d_is_pattern_text := s.defd 5
  d_Pattern_init := s.defd 6
  d_Pattern_filled := s.defd 7
  d_Pattern_width := s.defd 8
  d_Pattern_want_room := s.defd 9
  d_Pattern_add := s.defd 10
  d_Pattern_radd := s.defd 11
  d_Pattern_len := s.defd 12
  d_Pattern_str := s.defd 13
  d_Pattern_repr := s.defd 14
  d_Pattern_eq := s.defd 15
  d_is_far := s.defd 16
  d_want_distance := s.defd 17
  d_Row_init := s.defd 18
  d_Row_set_far := s.defd 19
  d_Row_word_at := s.defd 20
  d_Row_has_pattern := s.defd 21
  d_Row_width := s.defd 22
  d_Row_told := s.defd 23
  d_Row_widths := s.defd 24
  d_Row_forward_fault := s.defd 25
  d_Row_backward_fault := s.defd 26
  d_Row_copy := s.defd 27
  d_Row_is_narrow_beside := s.defd 28
  d_Row_getitem := s.defd 29
  d_Row_setitem := s.defd 30
  d_Row_iter := s.defd 31
  d_Row_len := s.defd 32
  d_Row_eq := s.defd 33
  d_Row_le := s.defd 34
  d_Row_lt := s.defd 35
  d__law_rng := s.defd 36
  d__law_draw := s.defd 37
  d__law_choice := s.defd 38
  d__law_word := s.defd 39
  d__law_any_word := s.defd 40
  d__law_pattern_text := s.defd 41
  d__law_plan := s.defd 42
  d__law_far := s.defd 43
  d__law_real := s.defd 44
  d__law_at := s.defd 45
  d__law_fault := s.defd 46
  d__law_smooth := s.defd 47
  d__law_is_right := s.defd 48
  d__law_changed := s.defd 49
  d__law_right := s.defd 50
  d__law_far_faults_right := s.defd 51
  d_law := s.defd 52
  g_is_integer := have c := s.look 0; He.glo_ok X G c
  g_is_count := have c := s.look 1; He.glo_ok X G c
  g_is_list := have c := s.look 2; He.glo_ok X G c
  g_is_character := have c := s.look 3; He.glo_ok X G c
  g_is_word := have c := s.look 4; He.glo_ok X G c
  g_is_pattern_text := have c := s.look 5; He.glo_ok X G c
  g_is_far := have c := s.look 6; He.glo_ok X G c
  g_want_distance := have c := s.look 7; He.glo_ok X G c
  g__law_rng := have c := s.look 8; He.glo_ok X G c
  g__law_draw := have c := s.look 9; He.glo_ok X G c
  g__law_choice := have c := s.look 10; He.glo_ok X G c
  g__law_word := have c := s.look 11; He.glo_ok X G c
  g__law_any_word := have c := s.look 12; He.glo_ok X G c
  g__law_pattern_text := have c := s.look 13; He.glo_ok X G c
  g__law_plan := have c := s.look 14; He.glo_ok X G c
  g__law_far := have c := s.look 15; He.glo_ok X G c
  g__law_real := have c := s.look 16; He.glo_ok X G c
  g__law_at := have c := s.look 17; He.glo_ok X G c
  g__law_fault := have c := s.look 18; He.glo_ok X G c
  g__law_smooth := have c := s.look 19; He.glo_ok X G c
  g__law_is_right := have c := s.look 20; He.glo_ok X G c
  g__law_changed := have c := s.look 21; He.glo_ok X G c
  g__law_right := have c := s.look 22; He.glo_ok X G c
  g__law_far_faults_right := have c := s.look 23; He.glo_ok X G c
  g_law := have c := s.look 24; He.glo_ok X G c
  g_Pattern := have c := s.look 25; He.glo_ok X G c
  c_Pattern := have c := s.look 26; He.cls_ok c
  mk_Pattern := have c := s.look 27; He.mkr_ok c
  ty_Pattern := have c := s.look 28; c
  na_Pattern_own_ahead := have c := s.look 29; He.noat_ok c
  na_Pattern_own_behind := have c := s.look 30; He.noat_ok c
  na_Pattern_own_text := have c := s.look 31; He.noat_ok c
  is_str_Pattern := have c := s.look 32; isB_ok c
  is_int_Pattern := have c := s.look 33; isB_ok c
  is_bool_Pattern := have c := s.look 34; isB_ok c
  is_list_Pattern := have c := s.look 35; isB_ok c
  is_tuple_Pattern := have c := s.look 36; isB_ok c
  is_NoneType_Pattern := have c := s.look 37; isB_ok c
  is_dict_Pattern := have c := s.look 38; isB_ok c
  is_Pattern_str := have c := s.look 39; isB_ok c
  is_Pattern_int := have c := s.look 40; isB_ok c
  is_Pattern_bool := have c := s.look 41; isB_ok c
  is_Pattern_list := have c := s.look 42; isB_ok c
  is_Pattern_tuple := have c := s.look 43; isB_ok c
  is_Pattern_dict := have c := s.look 44; isB_ok c
  is_Pattern_Pattern := have c := s.look 45; isB_ok c
  is_Pattern_Row := have c := s.look 46; isB_ok c
  g_Row := have c := s.look 47; He.glo_ok X G c
  c_Row := have c := s.look 48; He.cls_ok c
  mk_Row := have c := s.look 49; He.mkr_ok c
  ty_Row := have c := s.look 50; c
  nq_Row := have c := s.look 51; c
  na_Row_own_far := have c := s.look 52; He.noat_ok c
  na_Row_own_told := have c := s.look 53; He.noat_ok c
  is_str_Row := have c := s.look 54; isB_ok c
  is_int_Row := have c := s.look 55; isB_ok c
  is_bool_Row := have c := s.look 56; isB_ok c
  is_list_Row := have c := s.look 57; isB_ok c
  is_tuple_Row := have c := s.look 58; isB_ok c
  is_NoneType_Row := have c := s.look 59; isB_ok c
  is_dict_Row := have c := s.look 60; isB_ok c
  is_Row_str := have c := s.look 61; isB_ok c
  is_Row_int := have c := s.look 62; isB_ok c
  is_Row_bool := have c := s.look 63; isB_ok c
  is_Row_list := have c := s.look 64; isB_ok c
  is_Row_tuple := have c := s.look 65; isB_ok c
  is_Row_dict := have c := s.look 66; isB_ok c
  is_Row_Pattern := have c := s.look 67; isB_ok c
  is_Row_Row := have c := s.look 68; isB_ok c
  is_str_str := have c := s.look 69; isB_ok c
  is_str_int := have c := s.look 70; isB_ok c
  is_str_bool := have c := s.look 71; isB_ok c
  is_str_list := have c := s.look 72; isB_ok c
  is_str_tuple := have c := s.look 73; isB_ok c
  is_str_dict := have c := s.look 74; isB_ok c
  is_int_str := have c := s.look 75; isB_ok c
  is_int_int := have c := s.look 76; isB_ok c
  is_int_bool := have c := s.look 77; isB_ok c
  is_int_list := have c := s.look 78; isB_ok c
  is_int_tuple := have c := s.look 79; isB_ok c
  is_int_dict := have c := s.look 80; isB_ok c
  is_bool_str := have c := s.look 81; isB_ok c
  is_bool_int := have c := s.look 82; isB_ok c
  is_bool_bool := have c := s.look 83; isB_ok c
  is_bool_list := have c := s.look 84; isB_ok c
  is_bool_tuple := have c := s.look 85; isB_ok c
  is_bool_dict := have c := s.look 86; isB_ok c
  is_list_str := have c := s.look 87; isB_ok c
  is_list_int := have c := s.look 88; isB_ok c
  is_list_bool := have c := s.look 89; isB_ok c
  is_list_list := have c := s.look 90; isB_ok c
  is_list_tuple := have c := s.look 91; isB_ok c
  is_list_dict := have c := s.look 92; isB_ok c
  is_tuple_str := have c := s.look 93; isB_ok c
  is_tuple_int := have c := s.look 94; isB_ok c
  is_tuple_bool := have c := s.look 95; isB_ok c
  is_tuple_list := have c := s.look 96; isB_ok c
  is_tuple_tuple := have c := s.look 97; isB_ok c
  is_tuple_dict := have c := s.look 98; isB_ok c
  is_NoneType_str := have c := s.look 99; isB_ok c
  is_NoneType_int := have c := s.look 100; isB_ok c
  is_NoneType_bool := have c := s.look 101; isB_ok c
  is_NoneType_list := have c := s.look 102; isB_ok c
  is_NoneType_tuple := have c := s.look 103; isB_ok c
  is_NoneType_dict := have c := s.look 104; isB_ok c
  is_dict_str := have c := s.look 105; isB_ok c
  is_dict_int := have c := s.look 106; isB_ok c
  is_dict_bool := have c := s.look 107; isB_ok c
  is_dict_list := have c := s.look 108; isB_ok c
  is_dict_tuple := have c := s.look 109; isB_ok c
  is_dict_dict := have c := s.look 110; isB_ok c
  m_Pattern_filled := have c := s.look 111; He.meth_ok c
  m_Pattern_width := have c := s.look 112; He.meth_ok c
  m_Pattern_want_room := have c := s.look 113; He.meth_ok c
  m_Pattern_add := have c := s.look 114; He.meth_ok c
  m_Pattern_radd := have c := s.look 115; He.meth_ok c
  m_Pattern_len := have c := s.look 116; He.meth_ok c
  m_Pattern_str := have c := s.look 117; He.meth_ok c
  m_Pattern_repr := have c := s.look 118; He.meth_ok c
  m_Pattern_eq := have c := s.look 119; He.meth_ok c
  m_Row_set_far := have c := s.look 120; He.meth_ok c
  m_Row_word_at := have c := s.look 121; He.meth_ok c
  m_Row_has_pattern := have c := s.look 122; He.meth_ok c
  m_Row_width := have c := s.look 123; He.meth_ok c
  m_Row_told := have c := s.look 124; He.meth_ok c
  m_Row_widths := have c := s.look 125; He.meth_ok c
  m_Row_forward_fault := have c := s.look 126; He.meth_ok c
  m_Row_backward_fault := have c := s.look 127; He.meth_ok c
  m_Row_copy := have c := s.look 128; He.meth_ok c
  m_Row_is_narrow_beside := have c := s.look 129; He.meth_ok c
  m_Row_getitem := have c := s.look 130; He.meth_ok c
  m_Row_setitem := have c := s.look 131; He.meth_ok c
  m_Row_iter := have c := s.look 132; He.meth_ok c
  m_Row_len := have c := s.look 133; He.meth_ok c
  m_Row_eq := have c := s.look 134; He.meth_ok c
  m_Row_le := have c := s.look 135; He.meth_ok c
  m_Row_lt := have c := s.look 136; He.meth_ok c
  k_MOST_CHARACTERS := have c := s.look 137; He.int_ok X G c
  k_BLANK := have c := s.look 138; He.str_ok X G c
  k_HASH := have c := s.look 139; He.str_ok X G c
  g_NOT_IN_WORDS := have c := s.look 140; He.glo_ok X G c
  k_NOT_IN_WORDS := have c := s.look 141; fun H => He.tupB_ok c H
  k_MOST_TOLD := have c := s.look 142; He.int_ok X G c
  k_SHRINKS := have c := s.look 143; He.str_ok X G c
  k_JUMPS := have c := s.look 144; He.str_ok X G c
  k_GROWS := have c := s.look 145; He.str_ok X G c
  k_LAST_OF_ONE_DIGIT := have c := s.look 146; He.int_ok X G c
  b_abs := have c := s.look 147; He.free_ok X G c
  b_all := have c := s.look 148; He.free_ok X G c
  b_bool := have c := s.look 149; He.free_ok X G c
  b_divmod := have c := s.look 150; He.free_ok X G c
  b_enumerate := have c := s.look 151; He.free_ok X G c
  b_int := have c := s.look 152; He.free_ok X G c
  b_isinstance := have c := s.look 153; He.free_ok X G c
  b_len := have c := s.look 154; He.free_ok X G c
  b_list := have c := s.look 155; He.free_ok X G c
  b_max := have c := s.look 156; He.free_ok X G c
  b_min := have c := s.look 157; He.free_ok X G c
  b_ord := have c := s.look 158; He.free_ok X G c
  b_range := have c := s.look 159; He.free_ok X G c
  b_repr := have c := s.look 160; He.free_ok X G c
  b_str := have c := s.look 161; He.free_ok X G c
  b_tuple := have c := s.look 162; He.free_ok X G c
  e_Row_init_0 := have c := s.look 163; fun H => tupAt_ok c H
  et_Row_init_0 := have c := s.look 164; fun H => tupAt_ty c H
end Tx
set_option maxHeartbeats 0
namespace Hd
open PySem PySem.Spec PyProof.Rows L2 Eb
abbrev R : PySem.W.OpenRow := PySem.W.OpenLaw.row PySem.Challenge.rw_everysettles_k15_whole_faults_of_rows
abbrev hk : PySem.W.Hook := hookX 5 Tx.looks Tx.defns
def ob (s : PySem.W.SharedT) : He.AlD := obsXG 5 Tx.looks Tx.defns (HandSHeadRun.getT s)
theorem ob_eq (s : PySem.W.SharedT) : ob s = hk.obs s.abs := obsXG_eq (HandSHeadRun.getT_eq s)
def loose : List Str := (["SettleError", "LimitError", "InvalidWord", "InvalidPattern", "InvalidDistance", "InvalidCount", "InvalidRow", "TooMany", "MOST_CHARACTERS", "BLANK", "HASH", "NOT_IN_WORDS", "is_integer", "is_count", "is_list", "is_character", "is_word", "is_pattern_text", "Pattern", "MOST_TOLD", "SHRINKS", "JUMPS", "GROWS", "LAST_OF_ONE_DIGIT", "is_far", "want_distance", "Row", "_law_rng", "_law_draw", "_law_choice"] : List Str) ++ (["_law_word", "_law_any_word", "_law_pattern_text", "_law_plan", "_law_far", "_law_real", "_law_at", "_law_fault", "_law_smooth", "_law_is_right", "_law_changed", "_law_right", "_law_far_faults_right"] : List Str)
theorem run (w : World) : HandSHeadRun.RunEq R (PySem.W.view R.prog [47]) hk ob 20000 loose w := by
  intro os
  kernel_rfl
end Hd
set_option maxHeartbeats 4000000
namespace K15
open PySem PySem.Spec PyProof.Rows L2 Eb
/-- the law's numbers: at r a list of two -/
def RngAt (H : Hp) (r : Addr) : Prop := ∃ a b : Int, H r = some (.lst [.int a, .int b]) ∧ 0 ≤ a ∧ 0 ≤ b ∧ b < 2147483648
theorem RngAt.ne {H : Hp} {r p : Addr} (h : RngAt H r) (n : H p = none) : p ≠ r := fun e => by
  obtain ⟨a, b, h1, _⟩ := h
  rw [← e, n] at h1
  cases h1
theorem RngAt.new {H : Hp} {r p : Addr} {o : HO} (h : RngAt H r) (n : H p = none) : RngAt (upd H p o) r := by
  obtain ⟨a, b, h1, h2⟩ := id h
  exact ⟨a, b, by rw [upd_ne (RngAt.ne h n).symm]; exact h1, h2⟩
def spDraw : Sp := fun vs H Q _ => ∃ (r : Addr) (n : Int), vs = [.ref r, .int n] ∧ RngAt H r ∧ 0 < n ∧ n < 2 ^ 62 ∧ ∀ (d : Int) (H' : Hp), 0 ≤ d → d < n → Ext [r] H H' → RngAt H' r → Q (.int d) H'
def spRng (K : PySem.W.Frag) : Sp := fun vs H Q _ => ∃ (a : Addr) (ns : List Int) (k : Int), vs = [.ref a, .int k] ∧ SqL K H a (ns.map V.int) ∧ 0 ≤ k ∧ k < 100 ∧ ∀ (r : Addr) (H' : Hp), H r = none → Same H H' → RngAt H' r → Q (.ref r) H'
theorem div_small {i j : Int} (h0 : 0 < j) (h1 : j < 2 ^ 62) : CDivP i j := by
  refine ⟨h0, ?_⟩
  unfold Builtin.divisionGoesByPylong
  have e : j.natAbs.log2 < 63 := by
    refine Nat.log2_lt (by omega) |>.mpr ?_
    have : (j.natAbs : Int) = j := Int.natAbs_of_nonneg (by omega)
    have h2 : (j.natAbs : Int) < 2 ^ 62 := by rw [this]; exact h1
    have h3 : j.natAbs < 2 ^ 62 := by exact_mod_cast h2
    omega
  have e2 : (if (j == 0) = true then 0 else j.natAbs.log2 / 30 + 1) ≤ 300 := by
    split <;> omega
  simp only [Bool.and_eq_false_iff, decide_eq_false_iff_not]
  left
  omega
section
variable {P : Program} {w : World} {K : PySem.W.Frag} {mg : Str → Option Value} {base : Heap}
theorem ok__law_draw (T : Tx.TX K mg) : C8.Cal P w K mg base 1 "_law_draw" (spDraw) [] := by
  refine calD (k := 0) T.d__law_draw T.g__law_draw Tx.sc__law_draw (fun _ _ _ _ _ _ us hl => match us, hl with | [_, _], _ => rfl) ?len ?run
  case len => rintro vs H Q E ⟨r, n, rfl, _⟩; rfl
  case run =>
    rintro cdv A outer s H vs Q E hr ⟨r, n, rfl, ⟨a, b, hR, ha, hb, hb2⟩, n0, n1, q⟩
    refine ⟨_, by exact (pss_cons (ps_if (pt_cmpR op_gt (pe_ix ix_list (pv 0) pe_int (fun _ _ => rfl)) pe_int (nomark _)) (pss_cons (ps_asg (pe_callB call_divmodW (by rfl) T.b_divmod (by decide +kernel) (pa_cons (pe_ix ix_list (pv 0) pe_int (fun _ _ => rfl)) (pa_cons (pv 1) pa_nil))) (pg_tup rfl (pgs_cons (pg_sub (pv 0) pe_int set_list) (pgs_cons (pg_name (i := 2) Tx.sc__law_draw.nd rfl (Or.inl rfl)) pgs_nil)))) (pss_one (ps_ret (pv 2)))) pss_nil) (pss_cons (ps_asg (pe_op op_mod (pe_callTy call_int1 (by rfl) T.b_int (by decide +kernel) (pa_cons (pe_op op_add (pe_op op_mul (pe_ix ix_list (pv 0) pe_int (fun _ _ => rfl)) pe_int) pe_int) pa_nil)) pe_int) (pg_sub (pv 0) pe_int set_list)) (pss_one (ps_ret (pe_op op_mod (pe_callTy call_int1 (by rfl) T.b_int (by decide +kernel) (pa_cons (pe_op op_fdiv (pe_op op_mod (pe_callTy call_int1 (by rfl) T.b_int (by decide +kernel) (pa_cons (pe_op op_mul (pe_ix ix_list (pv 0) pe_int (fun _ _ => rfl)) (pe_ix ix_list (pv 0) pe_int (fun _ _ => rfl))) pa_nil)) pe_int) pe_int) pa_nil)) (pv 1)))))), ?_⟩
    have m0 : (0 : Int) ≤ (b * 39373 + 9967) % 2147483629 := Int.emod_nonneg _ (by decide)
    have m1 : (b * 39373 + 9967) % 2147483629 < 2147483629 := Int.emod_lt_of_pos _ (by decide)
    refine ⟨_, rfl, r, _, 0, .int a, rfl, rfl, SqL.of hR, rfl, _, _, rfl, rfl, _, rfl, ?_⟩
    by_cases c : (0 : Int) < a
    · refine itT (dT c) ?_
      refine ⟨_, rfl, r, _, 0, .int a, rfl, rfl, SqL.of hR, rfl, _, rfl, a, n, rfl, div_small n0 n1, fun p np => ?_⟩
      have ne : r ≠ p := ne_of_none hR np
      refine ⟨p, _, rfl, SqT.of upd_same, rfl, _, _, rfl, ⟨_, rfl, r, _, 0, 0, rfl, rfl, (by rw [upd_ne ne]; exact hR), rfl, _, _, rfl, rfl, ?_⟩⟩
      refine ⟨_, rfl, q _ _ (Int.emod_nonneg _ (by omega)) (Int.emod_lt_of_pos _ n0) ?_ ⟨a / n, b, upd_same, Int.ediv_nonneg ha (by omega), hb, hb2⟩⟩
      exact (Ext.new np).trans (Ext.put mem1)
    · refine itF (dF c) ?_
      refine ⟨_, rfl, r, _, 1, .int b, rfl, rfl, SqL.of hR, rfl, _, _, rfl, rfl, .inl ⟨by omega, by omega⟩, _, _, rfl, rfl, .inl ⟨_, rfl, _, _, rfl, rfl, (by show (0 : Int) < 2147483629; decide), _, rfl, r, _, 1, 1, rfl, rfl, hR, rfl, ?_⟩⟩
      have hR2 : (upd H r (.lst ([V.int a, .int b].set 1 (.int ((b * 39373 + 9967) % 2147483629))))) r = some (.lst [V.int a, .int ((b * 39373 + 9967) % 2147483629)]) := upd_same
      refine ⟨_, rfl, r, _, 1, _, rfl, rfl, SqL.of hR2, rfl, _, rfl, r, _, 1, _, rfl, rfl, SqL.of hR2, rfl, _, _, rfl, rfl, .inl ⟨by omega, by omega⟩, .inl ⟨_, rfl, _, _, rfl, rfl, (by show (0 : Int) < 2147483563; decide), _, _, rfl, rfl, ⟨by decide, by decide⟩, .inl ⟨_, rfl, _, rfl, _, n, rfl, rfl, n0, ?_⟩⟩⟩
      exact q _ _ (Int.emod_nonneg _ (by omega)) (Int.emod_lt_of_pos _ n0) (Ext.put mem1) ⟨a, _, hR2, ha, m0, by omega⟩
theorem ok__law_rng (T : Tx.TX K mg) : C8.Cal P w K mg base 1 "_law_rng" (spRng K) [] := by
  refine calD (k := 0) T.d__law_rng T.g__law_rng Tx.sc__law_rng (fun _ _ _ _ _ _ us hl => match us, hl with | [_, _], _ => rfl) ?len ?run
  case len => rintro vs H Q E ⟨r, n, k, rfl, _⟩; rfl
  case run =>
    rintro cdv A outer s H vs Q E hr ⟨a, ns, k, rfl, hS, k0, k1, q⟩
    refine ⟨_, by exact (pss_cons (ps_set (i := 2) Tx.sc__law_rng.nd rfl (Or.inl rfl) (pe_j (pe_ifExp (pt_cmpR op_lt (pv 1) (pe_callB call_len_seq (by rfl) T.b_len (by decide +kernel) (pa_cons (pv 0) pa_nil)) (nomark _)) (pe_ix ix_list (pv 0) (pv 1) (fun _ _ => rfl)) (pe_op op_add (pe_op op_mul pe_int (pv 1)) pe_int)))) (pss_one (ps_ret (pe_lst (pa_cons (pe_callB (call_max2 rfl) (by rfl) T.b_max (by decide +kernel) (pa_cons pe_int (pa_cons (pe_op op_sub (pe_callB call_abs (by rfl) T.b_abs (by decide +kernel) (pa_cons (pv 2) pa_nil)) (pe_op op_pow pe_int pe_int)) pa_nil))) (pa_cons (pe_op op_add (pe_op op_mod (pe_callTy call_int1 (by rfl) T.b_int (by decide +kernel) (pa_cons (pe_op op_add (pe_op op_add (pe_op op_mul (pe_op op_mod (pe_callTy call_int1 (by rfl) T.b_int (by decide +kernel) (pa_cons (pe_callB call_abs (by rfl) T.b_abs (by decide +kernel) (pa_cons (pv 2) pa_nil)) pa_nil)) pe_int) pe_int) (pe_op op_mul pe_int (pv 1))) pe_int) pa_nil)) pe_int) pe_int) pa_nil)))))), ?_⟩
    refine ⟨fun v H' => (∃ c, v = .int c) ∧ H' = H, ⟨_, rfl, _, rfl, a, _, rfl, .inl hS, _, _, rfl, rfl, _, rfl, it2 (fun c => ?_) (fun c => ?_)⟩, ?_⟩
    · have c' := of_decide_eq_true c
      rw [List.length_map] at c'
      have hk : k.toNat < ns.length := by omega
      exact ⟨_, rfl, _, rfl, a, _, k, .int ns[k.toNat], rfl, rfl, hS, at_of (j := k.toNat) (by omega) (by rw [List.getElem?_map, List.getElem?_eq_getElem hk]; rfl), ⟨_, rfl⟩, rfl⟩
    · exact ⟨_, rfl, _, _, rfl, rfl, .inl ⟨by decide, by decide⟩, _, _, rfl, rfl, ⟨_, rfl⟩, rfl⟩
    · rintro v H' ⟨⟨c, rfl⟩, rfl⟩
      have m0 : ∀ z : Int, (0 : Int) ≤ z % 2147483549 := fun z => Int.emod_nonneg _ (by decide)
      have m1 : ∀ z : Int, z % 2147483549 < 2147483549 := fun z => Int.emod_lt_of_pos _ (by decide)
      refine ⟨_, rfl, _, rfl, _, _, rfl, rfl, ⟨by decide, by decide, by decide⟩, _, _, rfl, rfl, _, _, rfl, ?_⟩
      refine ⟨_, rfl, _, rfl, .inl ⟨_, rfl, _, _, rfl, rfl, (by show (0 : Int) < 2147483549; decide), _, _, rfl, rfl, .inr ⟨by decide, by decide⟩, _, rfl, _, _, rfl, rfl, .inl ⟨by decide, by decide⟩, _, _, rfl, rfl, _, _, rfl, rfl, .inl ⟨_, rfl, _, _, rfl, rfl, (by show (0 : Int) < 2147483629; decide), _, _, rfl, rfl, (by show 2 ≤ sizeLine; decide), fun r hr => ?_⟩⟩⟩
      refine q r _ hr (Ext.same (Ext.new hr)) ⟨_, _, upd_same, ?_, ?_, ?_⟩
      · split <;> omega
      · have := Int.emod_nonneg ((if c < 0 then -c else c) % 2147483549 * 48271 + 7907 * k + 37) (show (2147483629 : Int) ≠ 0 by decide)
        omega
      · have := Int.emod_lt_of_pos ((if c < 0 then -c else c) % 2147483549 * 48271 + 7907 * k + 37) (show (0 : Int) < 2147483629 by decide)
        omega
/-- a choice among the items of a list -/
def spPick (K : PySem.W.Frag) : Sp := fun vs H Q _ => ∃ (r l : Addr) (xs : List V), vs = [.ref r, .ref l] ∧ RngAt H r ∧ l ≠ r ∧ H l = some (.lst xs) ∧ 0 < xs.length ∧ xs.length ≤ 1000 ∧ ∀ (v : V) (H' : Hp), v ∈ xs → Ext [r] H H' → RngAt H' r → Q v H'
/-- a sign of a text -/
def spSign : Sp := fun vs H Q _ => ∃ (r : Addr) (z : Str), vs = [.ref r, .str z] ∧ RngAt H r ∧ 0 < z.length ∧ z.length ≤ 1000 ∧ ∀ (c : Nat) (H' : Hp), c ∈ z.cps.toList → Ext [r] H H' → RngAt H' r → Q (.str ⟨#[c]⟩) H'
def spChoice (K : PySem.W.Frag) : Sp := fun vs H Q E => spPick K vs H Q E ∨ spSign vs H Q E
theorem sz1000 {n : Nat} (h : n ≤ 1000) : n ≤ sizeLine := Nat.le_trans h (by decide)
theorem ok__law_choice (T : Tx.TX K mg) : C8.Cal P w K mg base 2 "_law_choice" (spChoice K) [] := by
  refine calD (k := 1) T.d__law_choice T.g__law_choice Tx.sc__law_choice (fun _ _ _ _ _ _ us hl => match us, hl with | [_, _], _ => rfl) ?len ?run
  case len => rintro vs H Q E (⟨r, l, xs, rfl, _⟩ | ⟨r, z, rfl, _⟩) <;> rfl
  case run =>
    rintro cdv A outer s H vs Q E hr h
    refine ⟨_, by exact (pss_one (ps_ret (pe_ix (ix_or ix_list ix_str) (pv 1) (C8.pe_c (ok__law_draw T) hr (by decide) rfl (pa_cons (pv 0) (pa_cons (pe_callB (call_or call_len_seq call_len_str) (by rfl) T.b_len (by decide +kernel) (pa_cons (pv 1) pa_nil)) pa_nil))) (fun _ _ => rfl)))), ?_⟩
    rcases h with ⟨r, l, xs, rfl, hR, ne, hl, h0, h1, q⟩ | ⟨r, z, rfl, hR, h0, h1, q⟩
    · refine ⟨_, rfl, _, rfl, _, rfl, .inl ⟨l, xs, rfl, .inl (SqL.of hl), r, xs.length, rfl, hR, by omega, by omega, fun d H' d0 d1 e hR' => .inl ?_⟩⟩
      have hd : d.toNat < xs.length := by omega
      exact ⟨l, xs, d, xs[d.toNat], rfl, rfl, SqL.of (e l _ (by simpa using ne) hl), at_of (j := d.toNat) (by omega) (List.getElem?_eq_getElem hd), q _ H' (List.getElem_mem hd) e hR'⟩
    · refine ⟨_, rfl, _, rfl, _, rfl, .inr ⟨z, rfl, sz1000 h1, r, z.length, rfl, hR, by omega, by omega, fun d H' d0 d1 e hR' => .inr ?_⟩⟩
      have hd : d.toNat < z.cps.toList.length := by
        have : z.cps.toList.length = z.length := by simp [Str.length]
        omega
      exact ⟨z, d, z.cps.toList[d.toNat], rfl, rfl, sz1000 h1, at_g (j := d.toNat) (by omega) (List.getElem?_eq_getElem hd), q _ H' (List.getElem_mem hd) e hR'⟩
end
end K15
set_option maxHeartbeats 4000000
namespace K15
open PySem PySem.Spec PyProof.Rows L2 Eb
/-! ## words and patterns as texts -/
/-- a sign that can stand in words -/
def okC (c : Nat) : Bool := decide (32 ≤ c ∧ c ≤ 126 ∧ c ≠ 34 ∧ c ≠ 35 ∧ c ≠ 37 ∧ c ≠ 92)
def wdB (z : Str) : Bool := decide (z.length ≤ 20) && z.cps.toList.all okC
/-- what is no text -/
def NoStr (K : PySem.W.Frag) (H : Hp) (v : V) : Prop := ∃ t, TyX K H v t ∧ PySem.W.kitOne K t (.type "str") = some false
def spIsChar : Sp := fun vs H Q _ => ∃ c : Nat, vs = [.str ⟨#[c]⟩] ∧ Q (.bl (okC c)) H
def spIsWord (K : PySem.W.Frag) : Sp := fun vs H Q _ => ∃ v, vs = [v] ∧ ((∃ z : Str, v = .str z ∧ z.length ≤ 1000 ∧ ∀ H', Ext [] H H' → Q (.bl (wdB z)) H') ∨ (NoStr K H v ∧ Q (.bl false) H))
theorem cps_len (z : Str) : z.cps.toList.length = z.length := by simp [Str.length]
theorem take_succ' {α : Type} {l : List α} {i : Nat} {x : α} (h : l[i]? = some x) : l.take (i + 1) = l.take i ++ [x] := by
  rw [List.take_succ, h]; rfl
section
variable {P : Program} {w : World} {K : PySem.W.Frag} {mg : Str → Option Value} {base : Heap}
theorem ok_is_character (T : Tx.TX K mg) : C8.Cal P w K mg base 1 "is_character" (spIsChar) [] := by
  refine calD (k := 0) T.d_is_character T.g_is_character Tx.sc_is_character (fun _ _ _ _ _ _ us hl => match us, hl with | [_], _ => rfl) ?len ?run
  case len => rintro vs H Q E ⟨c, rfl, _⟩; rfl
  case run =>
    rintro cdv A outer s H vs Q E hr ⟨c, rfl, q⟩
    refine ⟨_, by exact (pss_one (ps_ret (pe_and (pe_chain op_le op_le pe_int (pe_callB call_ord (by rfl) T.b_ord (by decide +kernel) (pa_cons (pv 0) pa_nil)) pe_int) (pe_one (pe_cmpR op_notIn_seq (pe_callB call_ord (by rfl) T.b_ord (by decide +kernel) (pa_cons (pv 0) pa_nil)) (pe_gr T.g_NOT_IN_WORDS) (by rfl)))))), ?_⟩
    have hc : ∀ b : Bool, b = okC c → Q (.bl b) H := fun b e => by rw [e]; exact q
    have ec : ((⟨#[c]⟩ : Str).cps.getD 0 0 : Nat) = c := rfl
    refine ⟨_, rfl, ⟨#[c]⟩, rfl, rfl, _, _, rfl, rfl, _, rfl, it2 (fun h1 => ?_) (fun h1 => ?_)⟩
    · have h1' := of_decide_eq_true h1
      refine ⟨_, _, rfl, rfl, _, rfl, it2 (fun h2 => ?_) (fun h2 => ?_)⟩
      · have h2' := of_decide_eq_true h2
        refine ⟨_, rfl, ⟨#[c]⟩, rfl, rfl, _, _, rfl, .inr (T.k_NOT_IN_WORDS H), rfl, rfl, hc _ ?_⟩
        rw [ec] at h1' h2'
        rw [Bool.eq_iff_iff]
        simp only [okC, inV, eqV, ec, List.any_cons, List.any_nil, if_true, Bool.not_eq_true', Bool.or_eq_false_iff, beq_eq_false_iff_ne, decide_eq_true_eq, and_true]
        constructor
        · rintro ⟨a1, a2, a3, a4⟩; exact ⟨by omega, by omega, by omega, by omega, by omega, by omega⟩
        · rintro ⟨_, _, a1, a2, a3, a4⟩; exact ⟨by omega, by omega, by omega, by omega⟩
      · have h2' := of_decide_eq_false h2
        rw [ec] at h2'
        exact hc _ (by simp only [okC]; symm; apply decide_eq_false; omega)
    · have h1' := of_decide_eq_false h1
      rw [ec] at h1'
      exact ⟨_, rfl, itF rfl (hc _ (by simp only [okC]; symm; apply decide_eq_false; omega))⟩
theorem ok_is_word (T : Tx.TX K mg) : C8.Cal P w K mg base 2 "is_word" (spIsWord K) [] := by
  refine calD (k := 1) T.d_is_word T.g_is_word Tx.sc_is_word (fun _ _ _ _ _ _ us hl => match us, hl with | [_], _ => rfl) ?len ?run
  case len => rintro vs H Q E ⟨v, rfl, _⟩; rfl
  case run =>
    rintro cdv A outer s H vs Q E hr ⟨v, rfl, h⟩
    refine ⟨_, by exact (pss_cons (ps_if (PW.pt (pw_or (pt_not (pt_val (pe_callB call_isi (by rfl) T.b_isinstance (by decide +kernel) (pa_cons (pv 0) (pa_cons (pe_ty (T := "str") T.b_str (by decide +kernel)) pa_nil))))) (pw_or1 (pt_cmpR op_gt (pe_callB call_len_str (by rfl) T.b_len (by decide +kernel) (pa_cons (pv 0) pa_nil)) (pe_gi T.k_MOST_CHARACTERS) (nomark _))))) (pss_one (ps_ret pe_bl)) pss_nil) (pss_one (ps_ret (pe_callB (cr_all rfl) (by rfl) T.b_all (by decide +kernel) (pa_cons (pe_lc (own := [("sign", 1)]) (g := gName 1) (tt := tYes) rfl Tx.sc_is_word.nd (pi_str (pv 0)) (blkOk_by (own := [("sign", 1)]) (N := Tx.N_is_word) (sc := defScope Tx.s_is_word) (by decide +kernel)) (fun _ _ _ _ _ => (pg_name (i := 1) Tx.sc_is_word.nd rfl (Or.inl rfl))) (fun _ _ _ _ _ => pts_nil) (fun _ _ _ _ _ => (C8.pe_c (ok_is_character T) hr (by decide) rfl (pa_cons (pv 1) pa_nil)))) pa_nil))))), ?_⟩
    rcases h with ⟨z, rfl, hz, q⟩ | ⟨⟨t, ht, hk⟩, q⟩
    · refine ⟨_, rfl, _, _, _, _, true, rfl, .ty _, .base (.str z), T.is_str_str, _, rfl, itF rfl ?_⟩
      refine ⟨_, rfl, z, rfl, sz1000 hz, _, _, rfl, rfl, _, rfl, it2 (fun h1 => ?_) (fun h1 => ?_)⟩
      · have h1' := of_decide_eq_true h1
        have e : wdB z = false := by
          unfold wdB
          rw [decide_eq_false (by omega)]; rfl
        rw [← e]
        exact q H (Ext.refl H)
      · have h1' := of_decide_eq_false h1
        refine ⟨_, rfl, z, rfl, fun D hD => lc_it walk_str (fun i H' => H' D = some (.lst (((z.cps.toList.take i).map okC).map V.bl)) ∧ Ext [] H H') ⟨upd_same, Ext.new hD⟩ (fun _ _ _ _ => trivial) ?_ ?_⟩
        · rintro i x H1 H2 hi ⟨h1, h2⟩ ⟨rfl, c, hc, rfl⟩
          have hc' : z.cps.toList[i]? = some c := by simpa using hc
          refine ⟨rfl, _, rfl, c, rfl, _, h1, ?_, ?_, Ext.mut h2 hD⟩
          · rw [List.length_map, List.length_map, List.length_take, cps_len]
            exact Nat.lt_of_le_of_lt (Nat.min_le_right _ _) (Nat.lt_of_le_of_lt hz (by decide))
          · rw [upd_same, take_succ' hc', List.map_append, List.map_append]; rfl
        · rintro H1 ⟨h1, h2⟩
          refine ⟨D, _, rfl, SqL.of h1, ?_⟩
          have e : ((z.cps.toList.take z.cps.size).map okC).all id = wdB z := by
            unfold wdB
            rw [decide_eq_true (by omega), Bool.true_and, List.take_of_length_le (by simp), List.all_map]
            rfl
          rw [e]
          exact q H1 h2
    · exact ⟨_, rfl, _, _, _, _, false, rfl, .ty _, ht, hk, _, rfl, itT rfl (itT rfl q)⟩
/-- the text of a pattern -/
def patB (z : Str) : Bool := decide (z.length ≤ 20) && (decide ((z.cps.toList.filter (· != 35)).length + 1 = z.length) && (z.cps.toList.filter (· != 35)).all okC)
def spIsPat : Sp := fun vs H Q _ => ∃ z : Str, vs = [.str z] ∧ z.length ≤ 1000 ∧ ∀ H', Ext [] H H' → Q (.bl (patB z)) H'
def sg (c : Nat) : V := .str ⟨#[c]⟩
theorem ne_hash (c : Nat) : (!decide (V.str ⟨#[c]⟩ = V.str (PySem.Str.ofString "#"))) = (c != 35) := by
  rw [hash_eq]
  by_cases h : c = 35
  · subst h; simp
  · have : ¬ V.str ⟨#[c]⟩ = V.str ⟨#[35]⟩ := fun z => h (by simpa using z)
    rw [decide_eq_false this]
    simpa using h
theorem ok_is_pattern_text (T : Tx.TX K mg) : C8.Cal P w K mg base 2 "is_pattern_text" (spIsPat) [] := by
  refine calD (k := 1) T.d_is_pattern_text T.g_is_pattern_text Tx.sc_is_pattern_text (fun _ _ _ _ _ _ us hl => match us, hl with | [_], _ => rfl) ?len ?run
  case len => rintro vs H Q E ⟨c, rfl, _⟩; rfl
  case run =>
    rintro cdv A outer s H vs Q E hr ⟨z, rfl, hz, q⟩
    refine ⟨_, by exact (pss_cons (ps_if (PW.pt (pw_or (pt_not (pt_val (pe_callB call_isi (by rfl) T.b_isinstance (by decide +kernel) (pa_cons (pv 0) (pa_cons (pe_ty (T := "str") T.b_str (by decide +kernel)) pa_nil))))) (pw_or1 (pt_cmpR op_gt (pe_callB call_len_str (by rfl) T.b_len (by decide +kernel) (pa_cons (pv 0) pa_nil)) (pe_gi T.k_MOST_CHARACTERS) (nomark _))))) (pss_one (ps_ret pe_bl)) pss_nil) (pss_cons (ps_setLc (i := 1) (own := [("sign", 2)]) (g := gName 2) rfl Tx.sc_is_pattern_text.nd rfl rfl (sw_true rfl rfl rfl (by decide +kernel)) (pi_str (pv 0)) (blkOk_by (own := [("sign", 2)]) (N := Tx.N_is_pattern_text) (sc := defScope Tx.s_is_pattern_text) (by decide +kernel)) (fun _ _ _ _ _ => (pg_name (i := 2) Tx.sc_is_pattern_text.nd rfl (Or.inl rfl))) (fun _ _ _ _ _ => (pts_one (pt_cmpR op_ne (pv 2) (pe_gs T.k_HASH) (nomark _)))) (fun _ _ _ _ _ => (pv 2))) (pss_one (ps_ret (pe_and (pe_cmpR op_eq (pe_callB call_len_seq (by rfl) T.b_len (by decide +kernel) (pa_cons (pv 1) pa_nil)) (pe_op op_sub (pe_callB call_len_str (by rfl) T.b_len (by decide +kernel) (pa_cons (pv 0) pa_nil)) pe_int) (nomark _)) (pe_one (pe_callB (cr_all rfl) (by rfl) T.b_all (by decide +kernel) (pa_cons (pe_lc (own := [("sign", 2)]) (g := gName 2) (tt := tYes) rfl Tx.sc_is_pattern_text.nd (pi_list (pv 1)) (blkOk_by (own := [("sign", 2)]) (N := Tx.N_is_pattern_text) (sc := defScope Tx.s_is_pattern_text) (by decide +kernel)) (fun _ _ _ _ _ => (pg_name (i := 2) Tx.sc_is_pattern_text.nd rfl (Or.inl rfl))) (fun _ _ _ _ _ => pts_nil) (fun _ _ _ _ _ => (C8.pe_c (ok_is_character T) hr (by decide) rfl (pa_cons (pv 2) pa_nil)))) pa_nil)))))))), ?_⟩
    refine ⟨_, rfl, _, _, _, _, true, rfl, .ty _, .base (.str z), T.is_str_str, _, rfl, itF rfl ?_⟩
    refine ⟨_, rfl, z, rfl, sz1000 hz, _, _, rfl, rfl, _, rfl, it2 (fun h1 => ?_) (fun h1 => ?_)⟩
    · have h1' := of_decide_eq_true h1
      have e : patB z = false := by unfold patB; rw [decide_eq_false (by omega)]; rfl
      rw [← e]
      exact q H (Ext.refl H)
    · have h1' := of_decide_eq_false h1
      have le : ∀ i, ((z.cps.toList.take i).filter (· != 35)).length ≤ 1000 := fun i => by
        refine Nat.le_trans (List.length_filter_le _ _) ?_
        rw [List.length_take, cps_len]
        omega
      refine ⟨_, rfl, z, rfl, fun D hD => lc_it walk_str (fun i H' => H' D = some (.lst (((z.cps.toList.take i).filter (· != 35)).map sg)) ∧ Ext [] H H') ⟨upd_same, Ext.new hD⟩ (fun _ _ _ _ => trivial) ?_ ?_⟩
      · rintro i x H1 H2 hi ⟨h1, h2⟩ ⟨rfl, c, hc, rfl⟩
        have hc' : z.cps.toList[i]? = some c := by simpa using hc
        refine ⟨rfl, _, rfl, rfl, _, rfl, ?_⟩
        rw [ne_hash, take_succ' hc', List.filter_append, List.map_append]
        refine it2 (fun n => ?_) (fun n => ?_)
        · refine ⟨_, rfl, _, h1, Nat.lt_of_le_of_lt (by rw [List.length_map]; exact le i) (by decide), ?_, Ext.mut h2 hD⟩
          rw [upd_same, List.filter_cons_of_pos (by simpa using n)]; rfl
        · rw [List.filter_cons_of_neg (by simpa using n)]
          exact ⟨by simpa using h1, h2⟩
      · rintro H1 ⟨h1, h2⟩
        rw [List.take_of_length_le (by simp)] at h1
        refine ⟨_, rfl, D, _, rfl, .inl (SqL.of h1), _, rfl, z, rfl, sz1000 hz, _, _, rfl, rfl, rfl, _, rfl, ?_⟩
        have e1 : decide (V.int (((z.cps.toList.filter (· != 35)).map sg).length : Int) = V.int ((z.length : Int) - 1)) = decide ((z.cps.toList.filter (· != 35)).length + 1 = z.length) := by
          rw [List.length_map]
          congr 1
          simp only [V.int.injEq, eq_iff_iff]
          omega
        rw [e1]
        refine it2 (fun n => ?_) (fun n => ?_)
        · refine ⟨_, rfl, D, rfl, ⟨_, SqL.of h1⟩, fun D2 hD2 => ?_⟩
          have D12 : D ≠ D2 := ne_of_none h1 hD2
          have f2 : H D2 = none := Ext.free h2 hD2
          refine lc_it (walk_list (K := K) (a := D) (xs := (z.cps.toList.filter (· != 35)).map sg)) (fun i H' => H' D2 = some (.lst ((((z.cps.toList.filter (· != 35)).take i).map okC).map V.bl)) ∧ H' D = some (.lst ((z.cps.toList.filter (· != 35)).map sg)) ∧ Ext [] H H') ⟨upd_same, by rw [upd_ne D12]; exact h1, Ext.mut h2 f2⟩ (fun _ _ _ h => SqL.of h.2.1) ?_ ?_
          · rintro i x H3 H4 hi ⟨g1, g2, g3⟩ ⟨rfl, hx⟩
            rw [List.getElem?_map] at hx
            cases hc : (z.cps.toList.filter (· != 35))[i]? with
            | none => rw [hc] at hx; cases hx
            | some c =>
              rw [hc] at hx
              cases hx
              refine ⟨rfl, _, rfl, c, rfl, _, g1, ?_, ?_, by rw [upd_ne D12]; exact g2, Ext.mut g3 f2⟩
              · rw [List.length_map, List.length_map, List.length_take]
                exact Nat.lt_of_le_of_lt (Nat.min_le_left _ _) (Nat.lt_of_lt_of_le hi (by rw [List.length_map]; exact Nat.le_trans (by have := le z.length; rw [List.take_of_length_le (by rw [cps_len]; exact Nat.le_refl _)] at this; exact this) (by decide)))
              · rw [upd_same, take_succ' hc, List.map_append, List.map_append]; rfl
          · rintro H3 ⟨g1, g2, g3⟩
            refine ⟨D2, _, rfl, SqL.of g1, ?_⟩
            have e : (((z.cps.toList.filter (· != 35)).take ((z.cps.toList.filter (· != 35)).map sg).length).map okC).all id = patB z := by
              unfold patB
              rw [decide_eq_true (by omega), n, List.length_map, List.take_length, List.all_map]
              rfl
            rw [e]
            exact q H3 g3
        · have e : patB z = false := by unfold patB; rw [n]; simp
          rw [← e]
          exact q H1 h2
end
end K15
set_option maxHeartbeats 4000000
namespace K15
open PySem PySem.Spec PyProof.Rows L2 Eb
/-! ## patterns as objects -/
def patF (A B : List Nat) : List (Str × V) := [("own_text", .str (tx (A ++ 35 :: B))), ("own_ahead", .str (tx A)), ("own_behind", .str (tx B))]
theorem patF_put (A B : List Nat) : putF "own_behind" (.str (tx B)) (putF "own_ahead" (.str (tx A)) (putF "own_text" (.str (tx (A ++ 35 :: B))) [])) = patF A B := by kernel_rfl
theorem patF_a (A B : List Nat) : (patF A B).lookup ("own_ahead" : Str) = some (.str (tx A)) := by kernel_rfl
theorem patF_b (A B : List Nat) : (patF A B).lookup ("own_behind" : Str) = some (.str (tx B)) := by kernel_rfl
theorem patF_t (A B : List Nat) : (patF A B).lookup ("own_text" : Str) = some (.str (tx (A ++ 35 :: B))) := by kernel_rfl
theorem patF_f (A B : List Nat) : (patF A B).lookup ("filled" : Str) = none := by kernel_rfl
abbrev cPat (K : PySem.W.Frag) : Addr := He.ga K "Pattern"
/-- at a stands the pattern A # B -/
def PatAt (K : PySem.W.Frag) (H : Hp) (a : Addr) (A B : List Nat) : Prop := ∃ dx, H a = some (.ins (cPat K) dx (patF A B))
/-- signs of words -/
def okL (l : List Nat) : Prop := l.all okC = true
structure PatOk (A B : List Nat) : Prop where
  a : okL A
  b : okL B
  sz : A.length + B.length ≤ 19
theorem okC_35 : okC 35 = false := by decide
theorem okL_35 {l : List Nat} (h : okL l) : l.all (· != 35) = true := by
  refine List.all_eq_true.mpr fun c hc => ?_
  have h2 := List.all_eq_true.mp h c hc
  by_cases e : c = 35
  · rw [e, okC_35] at h2; cases h2
  · simpa using e
theorem filt_ok {l : List Nat} (h : okL l) : l.filter (· != 35) = l := List.filter_eq_self.mpr (List.all_eq_true.mp (okL_35 h))
theorem patB_of {A B : List Nat} (h : PatOk A B) : patB (tx (A ++ 35 :: B)) = true := by
  unfold patB
  have e : (A ++ 35 :: B).filter (· != 35) = A ++ B := by
    rw [List.filter_append, filt_ok h.a]
    have : (35 :: B).filter (· != 35) = B.filter (· != 35) := List.filter_cons_of_neg (p := (· != 35)) (by decide)
    rw [this, filt_ok h.b]
  rw [tx_list, tx_len, e, List.length_append, List.length_append, List.length_cons]
  have := h.sz
  have ab : (A ++ B).all okC = true := by rw [List.all_append, h.a, h.b]; rfl
  rw [decide_eq_true (by omega), decide_eq_true (by omega), ab]
  rfl
theorem patB_ex {z : Str} (h : patB z = true) : ∃ A B, z = tx (A ++ 35 :: B) ∧ PatOk A B := by
  unfold patB at h
  simp only [Bool.and_eq_true, decide_eq_true_eq] at h
  obtain ⟨h1, h2, h3⟩ := h
  obtain ⟨l, rfl⟩ := tx_ex z
  rw [tx_list] at h2 h3
  rw [tx_len] at h1 h2
  obtain ⟨A, B, e, a1, a2, a3⟩ := one_hash h2
  rw [a3, List.all_append, Bool.and_eq_true] at h3
  rw [e, List.length_append, List.length_cons] at h1
  exact ⟨A, B, by rw [e], h3.1, h3.2, by omega⟩
def spPatInit (K : PySem.W.Frag) : Sp := fun vs H Q _ => ∃ (a dx : Addr) (A B : List Nat), vs = [.ref a, .str (tx (A ++ 35 :: B))] ∧ H a = some (.ins (cPat K) dx []) ∧ PatOk A B ∧ ∀ H', Ext [a] H H' → PatAt K H' a A B → Q .non H'
section
variable {P : Program} {w : World} {K : PySem.W.Frag} {mg : Str → Option Value} {base : Heap}
theorem ok_Pattern_init (T : Tx.TX K mg) : C8.Mak P w K mg base 3 "Pattern" (He.ga K "Pattern") (spPatInit K) [] := by
  refine makD (k := 2) T.d_Pattern_init T.mk_Pattern T.g_Pattern Tx.sc_Pattern_init (fun _ _ _ _ _ _ us hl => match us, hl with | [_, _], _ => rfl) ?len ?run
  case len => rintro vs H Q E ⟨a, dx, A, B, rfl, _⟩; rfl
  case run =>
    rintro cdv A' outer s H vs Q E hr ⟨a, dx, A, B, rfl, ha, ok, q⟩
    refine ⟨_, by exact (pss_cons (ps_if (pt_not (pt_val (C8.pe_c (ok_is_pattern_text T) hr (by decide) rfl (pa_cons (pv 1) pa_nil)))) (pss_one ps_never) pss_nil) (pss_cons (ps_fld (pv 0) (pv 1) rfl) (pss_cons (ps_set (i := 2) Tx.sc_Pattern_init.nd rfl (Or.inl rfl) (pe_ix ix_list (pe_lc (own := [("at", 3), ("sign", 4)]) (g := gTup K 2 (gCons (gName 3) (gCons (gName 4) gNil))) rfl Tx.sc_Pattern_init.nd (pi_enumS (by rfl) T.b_enumerate (pa_cons (pv 1) pa_nil)) (blkOk_by (own := [("at", 3), ("sign", 4)]) (N := Tx.N_Pattern_init) (sc := defScope Tx.s_Pattern_init) (by decide +kernel)) (fun _ _ _ _ _ => by exact (pg_tup rfl (pgs_cons (pg_name (i := 3) Tx.sc_Pattern_init.nd rfl (Or.inl rfl)) (pgs_cons (pg_name (i := 4) Tx.sc_Pattern_init.nd rfl (Or.inl rfl)) pgs_nil)))) (fun _ _ _ _ _ => (pts_one (pt_cmpR op_eq (pv 4) (pe_gs T.k_HASH) (nomark _)))) (fun _ _ _ _ _ => (pv 3))) pe_int (fun _ _ => rfl))) (pss_one (ps_asg (pe_tup (pa_cons (pe_slice sl_str (pv 1) po_none (po_some (pv 2))) (pa_cons (pe_slice sl_str (pv 1) (po_some (pe_op op_add (pv 2) pe_int)) po_none) pa_nil))) (pg_tup rfl (pgs_cons (pg_fld (pv 0)) (pgs_cons (pg_fld (pv 0)) pgs_nil)))))))), ?_⟩
    have len : (A ++ 35 :: B).length ≤ 20 := by rw [List.length_append, List.length_cons]; have := ok.sz; omega
    refine ⟨_, rfl, _, rfl, by rw [tx_len]; omega, fun H1 e1 => ⟨_, rfl, ?_⟩⟩
    rw [patB_of ok]
    refine itF rfl ?_
    have ha1 : H1 a = some (.ins (cPat K) dx []) := e1 a _ (by simp) ha
    refine ⟨_, rfl, _, rfl, a, _, dx, _, rfl, ha1, T.c_Pattern, T.na_Pattern_own_text, by decide, ?_⟩
    have h2a : upd H1 a (.ins (cPat K) dx (putF "own_text" (.str (tx (A ++ 35 :: B))) [])) a = some (.ins (cPat K) dx (putF "own_text" (.str (tx (A ++ 35 :: B))) [])) := upd_same
    have e2 : Ext [a] H (upd H1 a (.ins (cPat K) dx (putF "own_text" (.str (tx (A ++ 35 :: B))) []))) := (e1.sub (by simp)).trans (Ext.put mem1)
    generalize upd H1 a (.ins (cPat K) dx (putF "own_text" (.str (tx (A ++ 35 :: B))) [])) = H2' at h2a e2 ⊢
    refine ⟨_, rfl, _, rfl, fun D hD => lc_it walk_enumS (fun i H' => H' D = some (.lst (if i ≤ A.length then [] else [.int (A.length : Int)])) ∧ Ext [] H2' H') ⟨upd_same, Ext.new hD⟩ (fun _ _ _ _ => trivial) ?_ ?_⟩
    · rintro i x H3 H4 hi ⟨g1, g2⟩ ⟨Tp, u, v, rfl, hT, rfl, hx, hy⟩
      cases (show V.int (i : Nat) = u from Option.some.inj hx)
      dsimp only at hy
      rw [tx_get] at hy
      cases hc : (A ++ 35 :: B)[i]? with
      | none => rw [hc] at hy; cases hy
      | some c =>
        rw [hc] at hy
        cases (show V.str ⟨#[c]⟩ = v from Option.some.inj hy)
        have nD : D ≠ Tp := ne_of_none g1 hT
        have fD : H2' Tp = none := Ext.free g2 hT
        have g1' : (upd H3 Tp (.tup [.int (i : Nat), .str ⟨#[c]⟩])) D = some (.lst (if i ≤ A.length then [] else [.int (A.length : Int)])) := by rw [upd_ne nD]; exact g1
        have g2' : Ext [] H2' (upd H3 Tp (.tup [.int (i : Nat), .str ⟨#[c]⟩])) := Ext.mut g2 fD
        refine ⟨Tp, _, rfl, SqT.of upd_same, rfl, _, _, rfl, _, _, rfl, rfl, rfl, _, rfl, rfl, _, rfl, ?_⟩
        have cm : decide (V.str ⟨#[c]⟩ = V.str (PySem.Str.ofString "#")) = (c == 35) := by
          have := ne_hash c
          cases h : decide (V.str ⟨#[c]⟩ = V.str (PySem.Str.ofString "#")) <;> rw [h] at this <;> simp_all [bne]
        rw [cm]
        have here : c = 35 ↔ i = A.length := by
          rcases Nat.lt_trichotomy i A.length with h | h | h
          · rw [List.getElem?_append_left h] at hc
            have := List.all_eq_true.mp (okL_35 ok.a) c (List.mem_of_getElem? hc)
            constructor
            · rintro rfl; simp at this
            · omega
          · subst h
            rw [List.getElem?_append_right (Nat.le_refl _), Nat.sub_self] at hc
            exact ⟨fun _ => rfl, fun _ => by simpa using hc.symm⟩
          · rw [List.getElem?_append_right (by omega), show i - A.length = (i - A.length - 1) + 1 by omega, List.getElem?_cons_succ] at hc
            have := List.all_eq_true.mp (okL_35 ok.b) c (List.mem_of_getElem? hc)
            constructor
            · rintro rfl; simp at this
            · omega
        refine it2 (fun n => ?_) (fun n => ?_)
        · have ei := here.mp (by simpa using n)
          subst ei
          refine ⟨_, rfl, _, g1', by rw [if_pos (Nat.le_refl _)]; decide, ?_, Ext.mut g2' hD⟩
          rw [upd_same, if_pos (Nat.le_refl _), if_neg (by omega)]; rfl
        · have ei : ¬ i = A.length := fun z => by have := here.mpr z; simp [this] at n
          refine ⟨?_, g2'⟩
          rw [g1']
          by_cases h : i ≤ A.length
          · rw [if_pos h, if_pos (by omega)]
          · rw [if_neg h, if_neg (by omega)]
    · rintro H3 ⟨g1, g2⟩
      rw [tx_size, List.length_append, List.length_cons, if_neg (by omega)] at g1
      refine ⟨D, _, 0, _, rfl, rfl, SqL.of g1, rfl, ?_⟩
      have h3a := g2 a _ (by simp) h2a
      refine ⟨_, rfl, _, rfl, _, rfl, _, rfl, by rw [tx_len]; exact sz1000 (by omega), _, rfl, _, rfl, _, _, rfl, rfl, _, rfl, _, rfl, by rw [tx_len]; exact sz1000 (by omega), (by show 2 ≤ sizeLine; decide), fun t ht => ?_⟩
      have nt : a ≠ t := ne_of_none h3a ht
      have c1 : cutS (tx (A ++ 35 :: B)) none (some (A.length : Int)) = tx A := by rw [cut_to, List.take_left]
      have c2 : cutS (tx (A ++ 35 :: B)) (some ((A.length : Int) + 1)) none = tx B := by
        have : ((A.length : Int) + 1) = ((A.length + 1 : Nat) : Int) := by omega
        rw [this, cut_from, tx_eq, ← List.drop_drop, List.drop_left]; rfl
      rw [c1, c2]
      refine ⟨t, _, rfl, SqT.of upd_same, rfl, _, _, rfl, _, rfl, a, _, dx, _, rfl, (by rw [upd_ne nt]; exact h3a), T.c_Pattern, T.na_Pattern_own_ahead, putF_lt 0 (Nat.le_refl _) (by decide), _, _, rfl, _, rfl, a, _, dx, _, rfl, upd_same, T.c_Pattern, T.na_Pattern_own_behind, putF_lt 1 (putF_n (fs := []) (n := 0) (Nat.le_refl _)) (by decide), rfl, ?_⟩
      · refine q _ ?_ ⟨dx, by rw [upd_same, patF_put]⟩
        exact ((e2.trans (g2.sub (by simp))).trans (Ext.new ht)).trans ((Ext.put mem1).trans (Ext.put mem1))
end
end K15
set_option maxHeartbeats 4000000
namespace K15
open PySem PySem.Spec PyProof.Rows L2 Eb
def spIsInt : Sp := fun vs H Q _ => ∃ i : Int, vs = [.int i] ∧ Q (.bl true) H
def spIsCount : Sp := fun vs H Q _ => ∃ i : Int, vs = [.int i] ∧ Q (.bl (decide (0 ≤ i))) H
/-- a list, a tuple, or no such thing -/
def spIsList (K : PySem.W.Frag) : Sp := fun vs H Q _ => ∃ v, vs = [v] ∧ ((TyX K H v (.type "list") ∨ TyX K H v (.type "tuple")) ∧ ∀ H', Ext [] H H' → Q (.bl true) H')
def spFilled (K : PySem.W.Frag) : Sp := fun vs H Q _ => ∃ (a : Addr) (n : Nat) (A B : List Nat), vs = [.ref a, .int n] ∧ PatAt K H a A B ∧ PatOk A B ∧ n < 2 ^ 1900 ∧ ∀ H', Ext [] H H' → Q (.str (tx (A ++ dig n ++ B))) H'
section
variable {P : Program} {w : World} {K : PySem.W.Frag} {mg : Str → Option Value} {base : Heap}
theorem ok_is_integer (T : Tx.TX K mg) : C8.Cal P w K mg base 1 "is_integer" (spIsInt) [] := by
  refine calD (k := 0) T.d_is_integer T.g_is_integer Tx.sc_is_integer (fun _ _ _ _ _ _ us hl => match us, hl with | [_], _ => rfl) ?len ?run
  case len => rintro vs H Q E ⟨c, rfl, _⟩; rfl
  case run =>
    rintro cdv A' outer s H vs Q E hr ⟨i, rfl, q⟩
    refine ⟨_, by exact (pss_one (ps_ret (pe_and (pe_callB call_isi (by rfl) T.b_isinstance (by decide +kernel) (pa_cons (pv 0) (pa_cons (pe_ty (T := "int") T.b_int (by decide +kernel)) pa_nil))) (pe_one (pe_not (pe_callB call_isi (by rfl) T.b_isinstance (by decide +kernel) (pa_cons (pv 0) (pa_cons (pe_ty (T := "bool") T.b_bool (by decide +kernel)) pa_nil)))))))), ?_⟩
    exact ⟨_, rfl, _, _, _, _, true, rfl, .ty _, .base (.int i), T.is_int_int, _, rfl, itT rfl ⟨_, rfl, _, _, _, _, false, rfl, .ty _, .base (.int i), T.is_int_bool, _, rfl, q⟩⟩
theorem ok_is_count (T : Tx.TX K mg) : C8.Cal P w K mg base 2 "is_count" (spIsCount) [] := by
  refine calD (k := 1) T.d_is_count T.g_is_count Tx.sc_is_count (fun _ _ _ _ _ _ us hl => match us, hl with | [_], _ => rfl) ?len ?run
  case len => rintro vs H Q E ⟨c, rfl, _⟩; rfl
  case run =>
    rintro cdv A' outer s H vs Q E hr ⟨i, rfl, q⟩
    refine ⟨_, by exact (pss_one (ps_ret (pe_and (C8.pe_c (ok_is_integer T) hr (by decide) rfl (pa_cons (pv 0) pa_nil)) (pe_one (pe_cmpR op_ge (pv 0) pe_int (nomark _)))))), ?_⟩
    exact ⟨_, rfl, i, rfl, _, rfl, itT rfl ⟨_, rfl, _, _, rfl, rfl, q⟩⟩
theorem ok_is_list (T : Tx.TX K mg) : C8.Cal P w K mg base 1 "is_list" (spIsList K) [] := by
  refine calD (k := 0) T.d_is_list T.g_is_list Tx.sc_is_list (fun _ _ _ _ _ _ us hl => match us, hl with | [_], _ => rfl) ?len ?run
  case len => rintro vs H Q E ⟨c, rfl, _⟩; rfl
  case run =>
    rintro cdv A' outer s H vs Q E hr ⟨v, rfl, h, q⟩
    refine ⟨_, by exact (pss_one (ps_ret (pe_callB call_isiT (by rfl) T.b_isinstance (by decide +kernel) (pa_cons (pv 0) (pa_cons (pe_tup (pa_cons (pe_ty (T := "list") T.b_list (by decide +kernel)) (pa_cons (pe_ty (T := "tuple") T.b_tuple (by decide +kernel)) pa_nil))) pa_nil))))), ?_⟩
    have e1 : PySem.W.kitAny K (.type "list") [.type "list", .type "tuple"] = some true := by unfold PySem.W.kitAny; rw [T.is_list_list]
    have e2 : PySem.W.kitAny K (.type "tuple") [.type "list", .type "tuple"] = some true := by unfold PySem.W.kitAny; rw [T.is_tuple_list]; unfold PySem.W.kitAny; dsimp only; rw [T.is_tuple_tuple]
    have ty : ∀ {p : Addr} {o : HO} {t : Value}, H p = none → TyX K H v t → TyX K (upd H p o) v t := fun {p o t} n h => by
      have up : ∀ {a : Addr} {u : HO}, H a = some u → upd H p o a = some u := fun {a u} e => by rw [upd_ne (ne_of_none e n)]; exact e
      cases h with
      | base b =>
        cases b with
        | non => exact .base .non
        | bl x => exact .base (.bl x)
        | int x => exact .base (.int x)
        | str x => exact .base (.str x)
        | flt x => exact .base (.flt x)
        | lst e => exact .base (.lst (up e))
        | frz e => exact .base (.frz (up e))
        | tup e => exact .base (.tup (up e))
        | dK e => exact .base (.dK (up e))
        | dT e => exact .base (.dT (up e))
        | ins e a b c d f => exact .base (.ins (up e) a b c d f)
      | byt b => exact .byt b
      | set e => exact .set (up e)
      | kList e c => exact .kList e c
      | kTuple e c => exact .kTuple e c
      | kDict e c => exact .kDict e c
      | fTuple e => exact .fTuple (up e)
      | fDict e => exact .fDict (up e)
    refine ⟨_, rfl, (by show 2 ≤ sizeLine; decide), fun p np => ?_⟩
    rcases h with h | h
    · exact ⟨v, p, _, _, _, true, rfl, upd_same, .cons (.ty _) (.cons (.ty _) .nil), ty np h, e1, q _ (Ext.new np)⟩
    · exact ⟨v, p, _, _, _, true, rfl, upd_same, .cons (.ty _) (.cons (.ty _) .nil), ty np h, e2, q _ (Ext.new np)⟩
theorem ok_Pattern_filled (T : Tx.TX K mg) : C8.Met P w K mg base 3 (He.ga K "Pattern") "filled" (spFilled K) [] := by
  refine metD (k := 2) T.d_Pattern_filled T.c_Pattern T.m_Pattern_filled Tx.sc_Pattern_filled (fun _ _ _ _ _ _ us hl => match us, hl with | [_, _], _ => rfl) ?len ?run
  case len => rintro vs H Q E ⟨a, n, A, B, rfl, _⟩; rfl
  case run =>
    rintro cdv A' outer s H vs Q E hr ⟨a, n, A, B, rfl, ⟨dx, ha⟩, ok, hn, q⟩
    refine ⟨_, by exact (pss_cons (ps_if (pt_not (pt_val (C8.pe_c (ok_is_count T) hr (by decide) rfl (pa_cons (pv 1) pa_nil)))) (pss_one ps_never) pss_nil) (pss_one (ps_ret (pe_join pe_str (pe_lst (pa_cons (pe_fld (pv 0) rfl) (pa_cons (pe_callTy call_str_int (by rfl) T.b_str (by decide +kernel) (pa_cons (pv 1) pa_nil)) (pa_cons (pe_fld (pv 0) rfl) pa_nil)))))))), ?_⟩
    refine ⟨_, rfl, n, rfl, _, rfl, itF (by rw [decide_eq_true (by omega)]; rfl) ?_⟩
    have l1 : (n : Int).natAbs.log2 < 1920 := by
      rw [Int.natAbs_natCast]
      by_cases h0 : n = 0
      · subst h0; decide
      · exact Nat.lt_trans ((Nat.log2_lt h0).mpr hn) (by decide)
    have dl : (dig n).length ≤ 1900 := dig_le (by decide) hn
    have sa := ok.sz
    refine ⟨⟨_, rfl⟩, _, rfl, a, _, dx, _, _, rfl, ha, T.c_Pattern, T.na_Pattern_own_ahead, patF_a A B, _, rfl, n, rfl, l1, _, rfl, a, _, dx, _, _, rfl, ha, T.c_Pattern, T.na_Pattern_own_behind, patF_b A B, (by show 3 ≤ sizeLine; decide), fun p np => ?_⟩
    rw [dig_eq]
    refine ⟨_, p, [tx A, tx (dig n), tx B], rfl, rfl, .inl (SqL.of upd_same), ?_, ?_⟩
    · simp only [List.map_cons, List.map_nil, List.sum_cons, List.sum_nil, tx_len, List.length_cons, List.length_nil]
      have : (PySem.Str.ofString "").length = 0 := by decide +kernel
      rw [this]
      omega
    · rw [join3]
      exact q _ (Ext.new np)
end
end K15
set_option maxHeartbeats 4000000
namespace K15
open PySem PySem.Spec PyProof.Rows L2 Eb
/-! ## rows -/
inductive Far where
  | word (l : List Nat)
  | pat (A B : List Nat)
abbrev cRow (K : PySem.W.Frag) : Addr := He.ga K "Row"
def FarAt (K : PySem.W.Frag) (H : Hp) : Far → V → Prop
  | .word l, v => v = .str (tx l)
  | .pat A B, v => ∃ a, v = .ref a ∧ PatAt K H a A B
structure WOk (l : List Nat) : Prop where
  sz : l.length ≤ 20
  ok : okL l
def FarOk : Far → Prop
  | .word l => WOk l
  | .pat A B => PatOk A B
def tls (told : List (List Nat)) : List V := told.map fun l => V.str (tx l)
structure RowOk (told : List (List Nat)) (far : Far) : Prop where
  n : told.length ≤ 8
  w : ∀ l ∈ told, WOk l
  f : FarOk far
def rowF (t : Addr) (v : V) : List (Str × V) := [("own_told", .ref t), ("own_far", v)]
theorem rowF_put (t : Addr) (v : V) : putF "own_far" v (putF "own_told" (.ref t) []) = rowF t v := by kernel_rfl
theorem rowF_set (t : Addr) (v u : V) : putF "own_far" u (rowF t v) = rowF t u := by kernel_rfl
theorem rowF_t (t : Addr) (v : V) : (rowF t v).lookup ("own_told" : Str) = some (.ref t) := by kernel_rfl
theorem rowF_f (t : Addr) (v : V) : (rowF t v).lookup ("own_far" : Str) = some v := by kernel_rfl
theorem rowF_n1 (t : Addr) (v : V) : (rowF t v).lookup ("word_at" : Str) = none := by kernel_rfl
theorem rowF_n2 (t : Addr) (v : V) : (rowF t v).lookup ("has_pattern" : Str) = none := by kernel_rfl
theorem rowF_n3 (t : Addr) (v : V) : (rowF t v).lookup ("width" : Str) = none := by kernel_rfl
theorem rowF_n4 (t : Addr) (v : V) : (rowF t v).lookup ("widths" : Str) = none := by kernel_rfl
theorem rowF_n5 (t : Addr) (v : V) : (rowF t v).lookup ("forward_fault" : Str) = none := by kernel_rfl
theorem rowF_n6 (t : Addr) (v : V) : (rowF t v).lookup ("backward_fault" : Str) = none := by kernel_rfl
theorem rowF_n7 (t : Addr) (v : V) : (rowF t v).lookup ("copy" : Str) = none := by kernel_rfl
theorem rowF_n8 (t : Addr) (v : V) : (rowF t v).lookup ("set_far" : Str) = none := by kernel_rfl
/-- at a stands a row whose told words stand at t -/
structure RowAt (K : PySem.W.Frag) (H : Hp) (a t : Addr) (told : List (List Nat)) (far : Far) : Prop where
  ob : ∃ dx v, H a = some (.ins (cRow K) dx (rowF t v)) ∧ FarAt K H far v
  ls : H t = some (.lst (tls told))
theorem FarAt.ext {K : PySem.W.Frag} {R : List Addr} {H H' : Hp} (e : Ext R H H') (n : ∀ b ∈ R, ∀ C dx A B, H b ≠ some (.ins C dx (patF A B))) : ∀ {far : Far} {v : V}, FarAt K H far v → FarAt K H' far v
  | .word l, v, h => h
  | .pat A B, v, ⟨a, e1, dx, e2⟩ => ⟨a, e1, dx, e a _ (fun z => n a z _ _ _ _ e2) e2⟩
theorem FarAt.ext0 {K : PySem.W.Frag} {H H' : Hp} (e : Ext [] H H') {far : Far} {v : V} (h : FarAt K H far v) : FarAt K H' far v := h.ext e (fun b z => by simp at z)
theorem RowAt.ext {K : PySem.W.Frag} {R : List Addr} {H H' : Hp} {a t : Addr} {told : List (List Nat)} {far : Far} (h : RowAt K H a t told far) (e : Ext R H H') (na : a ∉ R) (nt : t ∉ R) (n : ∀ b ∈ R, ∀ C dx A B, H b ≠ some (.ins C dx (patF A B))) : RowAt K H' a t told far := by
  obtain ⟨⟨dx, v, h1, h2⟩, h3⟩ := h
  exact ⟨⟨dx, v, e a _ na h1, h2.ext e n⟩, e t _ nt h3⟩
theorem RowAt.ext0 {K : PySem.W.Frag} {H H' : Hp} {a t : Addr} {told : List (List Nat)} {far : Far} (h : RowAt K H a t told far) (e : Ext [] H H') : RowAt K H' a t told far := h.ext e (by simp) (by simp) (fun b z => by simp at z)
theorem RngAt.nopat {H : Hp} {r : Addr} (h : RngAt H r) : ∀ b ∈ [r], ∀ C dx A B, H b ≠ some (.ins C dx (patF A B)) := fun b hb C dx A B z => by
  cases List.mem_singleton.mp hb
  obtain ⟨x, y, h1, _⟩ := h
  rw [h1] at z
  cases z
theorem tls_ne (told : List (List Nat)) (x y : Int) : tls told ≠ [.int x, .int y] := fun z => by
  cases told with
  | nil => cases z
  | cons l r => cases (List.cons.inj z).1
theorem RowAt.extR {K : PySem.W.Frag} {H H' : Hp} {a t r : Addr} {told : List (List Nat)} {far : Far} (h : RowAt K H a t told far) (hR : RngAt H r) (e : Ext [r] H H') : RowAt K H' a t told far := by
  obtain ⟨x, y, h1, _⟩ := id hR
  obtain ⟨⟨dx, v, g1, g2⟩, g3⟩ := id h
  refine h.ext e ?_ ?_ hR.nopat
  · intro z; cases List.mem_singleton.mp z; rw [h1] at g1; cases g1
  · intro z; cases List.mem_singleton.mp z; rw [h1] at g3; exact tls_ne told x y (HO.lst.inj (Option.some.inj g3)).symm
def farWord : Far → Nat → List Nat
  | .word l, _ => l
  | .pat A B, d => A ++ dig d ++ B
def wordAt (told : List (List Nat)) (far : Far) (d : Nat) : List Nat := match told[d]? with
  | some l => l
  | none => farWord far d
def isPat : Far → Bool
  | .word _ => false
  | .pat _ _ => true
def spIsFar (K : PySem.W.Frag) : Sp := fun vs H Q _ => ∃ (far : Far) (v : V), vs = [v] ∧ FarAt K H far v ∧ FarOk far ∧ ∀ H', Ext [] H H' → Q (.bl true) H'
def spRowInit (K : PySem.W.Frag) : Sp := fun vs H Q _ => ∃ (a dx l : Addr) (v : V) (told : List (List Nat)) (far : Far), vs = [.ref a, .ref l, v] ∧ H a = some (.ins (cRow K) dx []) ∧ ((SqL K H l (tls told) ∧ TyX K H (.ref l) (.type "list")) ∨ (SqT K H l (tls told) ∧ TyX K H (.ref l) (.type "tuple"))) ∧ FarAt K H far v ∧ RowOk told far ∧
  ∀ (t : Addr) (H' : Hp), H t = none → Ext [a] H H' → RowAt K H' a t told far → Q .non H'
def spHasPat (K : PySem.W.Frag) : Sp := fun vs H Q _ => ∃ (a t : Addr) (told : List (List Nat)) (far : Far), vs = [.ref a] ∧ RowAt K H a t told far ∧ Q (.bl (isPat far)) H
def spWordAt (K : PySem.W.Frag) : Sp := fun vs H Q _ => ∃ (a t : Addr) (told : List (List Nat)) (far : Far) (d : Nat), vs = [.ref a, .int d] ∧ RowAt K H a t told far ∧ RowOk told far ∧ d < 2 ^ 1900 ∧ ∀ H', Ext [] H H' → Q (.str (tx (wordAt told far d))) H'
def spWant : Sp := fun vs H Q _ => ∃ d : Nat, vs = [.int d] ∧ Q .non H
def spWidth (K : PySem.W.Frag) : Sp := fun vs H Q _ => ∃ (a t : Addr) (told : List (List Nat)) (far : Far) (d : Nat), vs = [.ref a, .int d] ∧ RowAt K H a t told far ∧ RowOk told far ∧ d < 2 ^ 1900 ∧ ∀ H', Ext [] H H' → Q (.int (wordAt told far d).length) H'
def wds (told : List (List Nat)) (far : Far) (n : Nat) : List V := (List.range n).map fun d => V.int (wordAt told far d).length
def spWidths (K : PySem.W.Frag) : Sp := fun vs H Q _ => ∃ (a t : Addr) (told : List (List Nat)) (far : Far), vs = [.ref a] ∧ RowAt K H a t told far ∧ RowOk told far ∧ ∀ p H', Ext [] H H' → H p = none → H' p = some (.lst (wds told far (told.length + 1))) → Q (.ref p) H'
theorem FarOk.len {far : Far} (h : FarOk far) {d : Nat} (hd : d < 2 ^ 1900) : (farWord far d).length ≤ 2000 := by
  cases far with
  | word l => exact Nat.le_trans h.sz (by decide)
  | pat A B =>
    have := h.sz
    have := dig_le (n := d) (by decide) hd
    show (A ++ dig d ++ B).length ≤ 2000
    rw [List.length_append, List.length_append]
    omega
theorem wordAt_len {told : List (List Nat)} {far : Far} (h : RowOk told far) {d : Nat} (hd : d < 2 ^ 1900) : (wordAt told far d).length ≤ 2000 := by
  unfold wordAt
  cases e : told[d]? with
  | some l => exact Nat.le_trans (h.w l (List.mem_of_getElem? e)).sz (by decide)
  | none => exact h.f.len hd
theorem wdB_of {l : List Nat} (h : WOk l) : wdB (tx l) = true := by
  unfold wdB
  rw [tx_len, tx_list, decide_eq_true h.sz, h.ok]; rfl
section
variable {P : Program} {w : World} {K : PySem.W.Frag} {mg : Str → Option Value} {base : Heap}
theorem ok_is_far (T : Tx.TX K mg) : C8.Cal P w K mg base 3 "is_far" (spIsFar K) [] := by
  refine calD (k := 2) T.d_is_far T.g_is_far Tx.sc_is_far (fun _ _ _ _ _ _ us hl => match us, hl with | [_], _ => rfl) ?len ?run
  case len => rintro vs H Q E ⟨far, v, rfl, _⟩; rfl
  case run =>
    rintro cdv A' outer s H vs Q E hr ⟨far, v, rfl, hf, ok, q⟩
    refine ⟨_, by exact (pss_one (ps_ret (pe_or (C8.pe_c (ok_is_word T) hr (by decide) rfl (pa_cons (pv 0) pa_nil)) (pe_one (pe_callB call_isi (by rfl) T.b_isinstance (by decide +kernel) (pa_cons (pv 0) (pa_cons (pe_gr T.g_Pattern) pa_nil))))))), ?_⟩
    cases far with
    | word l =>
      cases hf
      refine ⟨_, rfl, _, rfl, .inl ⟨_, rfl, by rw [tx_len]; exact Nat.le_trans ok.sz (by decide), fun H' e => ⟨_, rfl, itT (wdB_of ok) ?_⟩⟩⟩
      exact q H' e
    | pat A B =>
      obtain ⟨a, rfl, dx, ha⟩ := hf
      have ty := insB_ok (H := H) T.c_Pattern T.ty_Pattern ha
      refine ⟨_, rfl, _, rfl, .inr ⟨⟨_, ty, T.is_Pattern_str⟩, _, rfl, itF rfl ⟨_, rfl, _, _, _, _, true, rfl, .own _, ty, T.is_Pattern_Pattern, ?_⟩⟩⟩
      exact q H (Ext.refl H)
theorem ok_want_distance (T : Tx.TX K mg) : C8.Cal P w K mg base 3 "want_distance" (spWant) [] := by
  refine calD (k := 2) T.d_want_distance T.g_want_distance Tx.sc_want_distance (fun _ _ _ _ _ _ us hl => match us, hl with | [_], _ => rfl) ?len ?run
  case len => rintro vs H Q E ⟨d, rfl, _⟩; rfl
  case run =>
    rintro cdv A' outer s H vs Q E hr ⟨d, rfl, q⟩
    refine ⟨_, by exact (pss_one (ps_if (pt_not (pt_val (C8.pe_c (ok_is_count T) hr (by decide) rfl (pa_cons (pv 0) pa_nil)))) (pss_one ps_never) pss_nil)), ?_⟩
    exact ⟨_, rfl, d, rfl, _, rfl, itF (by rw [decide_eq_true (by omega)]; rfl) q⟩
theorem ok_Row_has_pattern (T : Tx.TX K mg) : C8.Met P w K mg base 1 (He.ga K "Row") "has_pattern" (spHasPat K) [] := by
  refine metD (k := 0) T.d_Row_has_pattern T.c_Row T.m_Row_has_pattern Tx.sc_Row_has_pattern (fun _ _ _ _ _ _ us hl => match us, hl with | [_], _ => rfl) ?len ?run
  case len => rintro vs H Q E ⟨a, t, told, far, rfl, _⟩; rfl
  case run =>
    rintro cdv A' outer s H vs Q E hr ⟨a, t, told, far, rfl, ⟨⟨dx, v, ha, hf⟩, ht⟩, q⟩
    refine ⟨_, by exact (pss_one (ps_ret (pe_callB call_isi (by rfl) T.b_isinstance (by decide +kernel) (pa_cons (pe_fld (pv 0) rfl) (pa_cons (pe_gr T.g_Pattern) pa_nil))))), ?_⟩
    refine ⟨_, rfl, a, _, dx, _, _, rfl, ha, T.c_Row, T.na_Row_own_far, rowF_f t v, ?_⟩
    cases far with
    | word l =>
      cases hf
      exact ⟨_, _, _, _, false, rfl, .own _, .base (.str _), T.is_str_Pattern, q⟩
    | pat A B =>
      obtain ⟨b, rfl, dy, hb⟩ := hf
      exact ⟨_, _, _, _, true, rfl, .own _, insB_ok T.c_Pattern T.ty_Pattern hb, T.is_Pattern_Pattern, q⟩
theorem ok_Row_word_at (T : Tx.TX K mg) : C8.Met P w K mg base 4 (He.ga K "Row") "word_at" (spWordAt K) [] := by
  refine metD (k := 3) T.d_Row_word_at T.c_Row T.m_Row_word_at Tx.sc_Row_word_at (fun _ _ _ _ _ _ us hl => match us, hl with | [_, _], _ => rfl) ?len ?run
  case len => rintro vs H Q E ⟨a, t, told, far, d, rfl, _⟩; rfl
  case run =>
    rintro cdv A' outer s H vs Q E hr ⟨a, t, told, far, d, rfl, R, ok, hd, q⟩
    obtain ⟨⟨dx, v, ha, hf⟩, ht⟩ := id R
    refine ⟨_, by exact (pss_cons (ps_if (pt_cmpR op_lt (pv 1) (pe_callB call_len_seq (by rfl) T.b_len (by decide +kernel) (pa_cons (pe_fld (pv 0) rfl) pa_nil)) (nomark _)) (pss_one (ps_ret (pe_ix ix_list (pe_fld (pv 0) rfl) (pv 1) (fun _ _ => rfl)))) pss_nil) (pss_one (ps_ret (pe_ifExp (pt_val (C8.pe_mt0 (ok_Row_has_pattern T) hr (by decide) (pv 0))) (C8.pe_mt (ok_Pattern_filled T) hr (by decide) (pe_fld (pv 0) rfl) (pa_cons (pv 1) pa_nil)) (pe_fld (pv 0) rfl))))), ?_⟩
    have el : (tls told).length = told.length := List.length_map _
    refine ⟨_, rfl, _, rfl, a, _, dx, _, _, rfl, ha, T.c_Row, T.na_Row_own_told, rowF_t t v, t, _, rfl, .inl (SqL.of ht), _, _, rfl, rfl, _, rfl, it2 (fun c => ?_) (fun c => ?_)⟩
    · have c' := of_decide_eq_true c
      have hl : d < told.length := by omega
      have e : told[d]? = some told[d] := List.getElem?_eq_getElem hl
      refine ⟨_, rfl, a, _, dx, _, _, rfl, ha, T.c_Row, T.na_Row_own_told, rowF_t t v, _, rfl, t, _, _, _, rfl, rfl, SqL.of ht, atI_nat (v := V.str (tx told[d])) (by unfold tls; rw [List.getElem?_map, e]; rfl), ?_⟩
      have := q H (Ext.refl H)
      unfold wordAt at this
      rw [e] at this
      exact this
    · have c' := of_decide_eq_false c
      have e : told[d]? = none := List.getElem?_eq_none (by omega)
      have q' : ∀ H', Ext [] H H' → Q (.str (tx (farWord far d))) H' := fun H' x => by
        have := q H' x
        unfold wordAt at this
        rw [e] at this
        exact this
      refine ⟨_, rfl, a, dx, _, rfl, ha, rowF_n2 t v, a, t, told, far, rfl, R, _, rfl, ?_⟩
      cases far with
      | word l =>
        refine itF rfl ⟨_, rfl, a, _, dx, _, _, rfl, ha, T.c_Row, T.na_Row_own_far, rowF_f t v, ?_⟩
        cases hf
        exact q' H (Ext.refl H)
      | pat A B =>
        obtain ⟨b, rfl, dy, hb⟩ := hf
        exact itT rfl ⟨_, rfl, a, _, dx, _, _, rfl, ha, T.c_Row, T.na_Row_own_far, rowF_f t _, b, dy, _, rfl, hb, patF_f A B, _, rfl, b, d, A, B, rfl, ⟨dy, hb⟩, ok.f, hd, q'⟩
theorem ok_Row_width (T : Tx.TX K mg) : C8.Met P w K mg base 5 (He.ga K "Row") "width" (spWidth K) [] := by
  refine metD (k := 4) T.d_Row_width T.c_Row T.m_Row_width Tx.sc_Row_width (fun _ _ _ _ _ _ us hl => match us, hl with | [_, _], _ => rfl) ?len ?run
  case len => rintro vs H Q E ⟨a, t, told, far, d, rfl, _⟩; rfl
  case run =>
    rintro cdv A' outer s H vs Q E hr ⟨a, t, told, far, d, rfl, R, ok, hd, q⟩
    obtain ⟨⟨dx, v, ha, hf⟩, ht⟩ := id R
    refine ⟨_, by exact (pss_cons (ps_expr (C8.pe_c (ok_want_distance T) hr (by decide) rfl (pa_cons (pv 1) pa_nil))) (pss_one (ps_ret (pe_callB call_len_str (by rfl) T.b_len (by decide +kernel) (pa_cons (C8.pe_mt (ok_Row_word_at T) hr (by decide) (pv 0) (pa_cons (pv 1) pa_nil)) pa_nil))))), ?_⟩
    refine ⟨_, rfl, d, rfl, _, rfl, a, dx, _, rfl, ha, rowF_n1 t v, _, rfl, a, t, told, far, d, rfl, R, ok, hd, fun H' e => ⟨_, rfl, ?_, ?_⟩⟩
    · rw [tx_len]; exact Nat.le_trans (wordAt_len ok hd) (by decide)
    · rw [tx_len]; exact q H' e
theorem ok_Row_widths (T : Tx.TX K mg) : C8.Met P w K mg base 6 (He.ga K "Row") "widths" (spWidths K) [] := by
  refine metD (k := 5) T.d_Row_widths T.c_Row T.m_Row_widths Tx.sc_Row_widths (fun _ _ _ _ _ _ us hl => match us, hl with | [_], _ => rfl) ?len ?run
  case len => rintro vs H Q E ⟨a, t, told, far, rfl, _⟩; rfl
  case run =>
    rintro cdv A' outer s H vs Q E hr ⟨a, t, told, far, rfl, R, ok, q⟩
    obtain ⟨⟨dx, v, ha, hf⟩, ht⟩ := id R
    refine ⟨_, by exact (pss_one (ps_ret (pe_lc (own := [("distance", 1)]) (g := gName 1) (tt := tYes) rfl Tx.sc_Row_widths.nd (pi_range1 (by rfl) T.b_range (pa_cons (pe_op op_add (pe_callB call_len_seq (by rfl) T.b_len (by decide +kernel) (pa_cons (pe_fld (pv 0) rfl) pa_nil)) pe_int) pa_nil)) (blkOk_by (own := [("distance", 1)]) (N := Tx.N_Row_widths) (sc := defScope Tx.s_Row_widths) (by decide +kernel)) (fun _ _ _ _ _ => (pg_name (i := 1) Tx.sc_Row_widths.nd rfl (Or.inl rfl))) (fun _ _ _ _ _ => pts_nil) (fun _ _ _ _ _ => (C8.pe_mt (ok_Row_width T) hr (by decide) (pv 0) (pa_cons (pv 1) pa_nil)))))), ?_⟩
    have el : (tls told).length = told.length := List.length_map _
    have n8 := ok.n
    refine ⟨_, rfl, a, _, dx, _, _, rfl, ha, T.c_Row, T.na_Row_own_told, rowF_t t v, t, _, rfl, .inl (SqL.of ht), _, _, rfl, rfl, _, rfl, by omega, by omega, fun D hD => ?_⟩
    refine lc_it walk_range (fun i H' => H' D = some (.lst (wds told far i)) ∧ Ext [] H H') ⟨upd_same, Ext.new hD⟩ (fun _ _ _ _ => trivial) ?_ ?_
    · rintro i x H1 H2 hi ⟨g1, g2⟩ ⟨rfl, rfl⟩
      have R1 := R.ext0 g2
      obtain ⟨⟨dx1, v1, ha1, hf1⟩, ht1⟩ := id R1
      refine ⟨rfl, _, rfl, a, dx1, _, rfl, ha1, rowF_n3 t v1, _, rfl, a, t, told, far, i, (by show [V.ref a, V.int (0 + (i : Int))] = _; rw [Int.zero_add]), R1, ok, ?_, fun H3 e3 => ⟨_, e3 D _ (by simp) g1, ?_, ?_, Ext.mut (g2.trans e3) hD⟩⟩
      · exact Nat.lt_of_lt_of_le (show i < 2 ^ 10 by omega) (Nat.pow_le_pow_right (by decide) (by decide))
      · unfold wds
        rw [List.length_map, List.length_range]
        exact Nat.lt_of_lt_of_le (show i < 1000 by omega) (by decide)
      · rw [upd_same]
        unfold wds
        rw [List.range_succ, List.map_append]; rfl
    · rintro H1 ⟨g1, g2⟩
      have e : (((tls told).length : Int) + 1).toNat = told.length + 1 := by omega
      rw [e] at g1
      exact q D H1 g2 hD g1
end
end K15
set_option maxHeartbeats 4000000
namespace K15
open PySem PySem.Spec PyProof.Rows L2 Eb
/-! ## rows made, copied, changed -/
def spRowCopy (K : PySem.W.Frag) : Sp := fun vs H Q _ => ∃ (a t : Addr) (told : List (List Nat)) (far : Far), vs = [.ref a] ∧ RowAt K H a t told far ∧ RowOk told far ∧ ∀ b u H', Ext [] H H' → H b = none → H u = none → RowAt K H' b u told far → Q (.ref b) H'
def spSetFar (K : PySem.W.Frag) : Sp := fun vs H Q _ => ∃ (a t : Addr) (told : List (List Nat)) (far far' : Far) (v : V), vs = [.ref a, v] ∧ RowAt K H a t told far ∧ FarAt K H far' v ∧ FarOk far' ∧ ∀ H', Ext [a] H H' → RowAt K H' a t told far' → Q .non H'
/-- the told words with one set -/
def upTo (told : List (List Nat)) (far : Far) (n : Nat) : List (List Nat) := told ++ (List.range' told.length (n - told.length)).map (wordAt told far)
def setAt (told : List (List Nat)) (far : Far) (d : Nat) (l : List Nat) : List (List Nat) := (upTo told far (d + 1)).set d l
def spSetItem (K : PySem.W.Frag) : Sp := fun vs H Q _ => ∃ (a t : Addr) (told : List (List Nat)) (far : Far) (d : Nat) (l : List Nat), vs = [.ref a, .int d, .str (tx l)] ∧ RowAt K H a t told far ∧ RowOk told far ∧ d < 8 ∧ WOk l ∧ ∀ H', Ext [t] H H' → RowAt K H' a t (setAt told far d l) far → Q .non H'
theorem upTo_len (told : List (List Nat)) (far : Far) (n : Nat) : (upTo told far n).length = max told.length n := by
  unfold upTo
  rw [List.length_append, List.length_map, List.length_range']
  omega
theorem upTo_self (told : List (List Nat)) (far : Far) {n : Nat} (h : n ≤ told.length) : upTo told far n = told := by
  unfold upTo
  rw [show n - told.length = 0 by omega]
  simp
theorem upTo_succ (told : List (List Nat)) (far : Far) {n : Nat} (h : told.length ≤ n) : upTo told far (n + 1) = upTo told far n ++ [wordAt told far n] := by
  unfold upTo
  rw [show n + 1 - told.length = (n - told.length) + 1 by omega, List.range'_concat, List.map_append, List.append_assoc]
  congr 2
  show [wordAt told far (told.length + 1 * (n - told.length))] = _
  rw [show told.length + 1 * (n - told.length) = n by omega]
theorem wordAt_out {told : List (List Nat)} {far : Far} {n : Nat} (h : told.length ≤ n) : wordAt told far n = farWord far n := by
  unfold wordAt
  rw [List.getElem?_eq_none h]
/-- one more told word by the row itself changes no word -/
theorem wordAt_upTo (told : List (List Nat)) (far : Far) (n d : Nat) : wordAt (upTo told far n) far d = wordAt told far d := by
  by_cases h : n ≤ told.length
  · rw [upTo_self told far h]
  · by_cases h1 : d < told.length
    · unfold wordAt upTo
      rw [List.getElem?_append_left h1]
    · by_cases h2 : d < n
      · have e : (upTo told far n)[d]? = some (wordAt told far d) := by
          unfold upTo
          rw [List.getElem?_append_right (by omega), List.getElem?_map, List.getElem?_range' (by omega)]
          show some (wordAt told far (told.length + 1 * (d - told.length))) = _
          rw [show told.length + 1 * (d - told.length) = d by omega]
        show (match (upTo told far n)[d]? with | some l => l | none => farWord far d) = _
        rw [e]
      · rw [wordAt_out (told := upTo told far n) (by rw [upTo_len]; omega), wordAt_out (told := told) (by omega)]
theorem dig1 : ∀ i : Nat, i < 10 → dig i = [48 + i] := by
  intro i hi
  have h : ∀ i : Fin 10, dig i.val = [48 + i.val] := by decide +kernel
  exact h ⟨i, hi⟩
theorem okL_app {a b : List Nat} (h1 : okL a) (h2 : okL b) : okL (a ++ b) := by
  unfold okL at *
  rw [List.all_append, h1, h2]; rfl
theorem far_wok {far : Far} (h : FarOk far) {i : Nat} (hi : i < 10) : WOk (farWord far i) := by
  cases far with
  | word l => exact h
  | pat A B =>
    have sz := h.sz
    show WOk (A ++ dig i ++ B)
    rw [dig1 i hi]
    refine ⟨by rw [List.length_append, List.length_append, List.length_singleton]; omega, okL_app (okL_app h.a ?_) h.b⟩
    have h : ∀ i : Fin 10, okC (48 + i.val) = true := by decide
    have := h ⟨i, hi⟩
    unfold okL
    simpa using this
theorem word_wok {told : List (List Nat)} {far : Far} (h : RowOk told far) {i : Nat} (hi : i < 10) : WOk (wordAt told far i) := by
  unfold wordAt
  cases e : told[i]? with
  | some l => exact h.w l (List.mem_of_getElem? e)
  | none => exact far_wok h.f hi
theorem upTo_ok {told : List (List Nat)} {far : Far} (h : RowOk told far) {n : Nat} (hn : n ≤ 8) : RowOk (upTo told far n) far := by
  refine ⟨by rw [upTo_len]; have := h.n; omega, fun z hz => ?_, h.f⟩
  unfold upTo at hz
  rcases List.mem_append.mp hz with hz | hz
  · exact h.w z hz
  · obtain ⟨i, hi, rfl⟩ := List.mem_map.mp hz
    have := List.mem_range'_1.mp hi
    exact word_wok h (by omega)
theorem setAt_ok {told : List (List Nat)} {far : Far} (h : RowOk told far) {d : Nat} (hd : d < 8) {l : List Nat} (wl : WOk l) : RowOk (setAt told far d l) far := by
  have u := upTo_ok h (n := d + 1) (by omega)
  refine ⟨by unfold setAt; rw [List.length_set]; exact u.n, fun z hz => ?_, h.f⟩
  unfold setAt at hz
  rcases List.mem_or_eq_of_mem_set hz with hz | rfl
  · exact u.w z hz
  · exact wl
section
variable {P : Program} {w : World} {K : PySem.W.Frag} {mg : Str → Option Value} {base : Heap}
theorem ty_up {H H' : Hp} {v : V} {t : Value} (e : Ext [] H H') (h : TyX K H v t) : TyX K H' v t := by
  have up : ∀ {a : Addr} {u : HO}, H a = some u → H' a = some u := fun {a u} q => e a u (by simp) q
  cases h with
  | base b =>
    cases b with
    | non => exact .base .non
    | bl x => exact .base (.bl x)
    | int x => exact .base (.int x)
    | str x => exact .base (.str x)
    | flt x => exact .base (.flt x)
    | lst e => exact .base (.lst (up e))
    | frz e => exact .base (.frz (up e))
    | tup e => exact .base (.tup (up e))
    | dK e => exact .base (.dK (up e))
    | dT e => exact .base (.dT (up e))
    | ins e a b c d f => exact .base (.ins (up e) a b c d f)
  | byt b => exact .byt b
  | set e => exact .set (up e)
  | kList e c => exact .kList e c
  | kTuple e c => exact .kTuple e c
  | kDict e c => exact .kDict e c
  | fTuple e => exact .fTuple (up e)
  | fDict e => exact .fDict (up e)
theorem sqL_up {H H' : Hp} {a : Addr} {xs : List V} (e : Ext [] H H') (h : SqL K H a xs) : SqL K H' a xs := (Ext.same e).seq h
theorem sqT_up {H H' : Hp} {a : Addr} {xs : List V} (e : Ext [] H H') (h : SqT K H a xs) : SqT K H' a xs := by
  rcases h with (h | ⟨o, h⟩) | h
  · exact .inl (.inl (e a _ (by simp) h))
  · exact .inl (.inr ⟨o, e a _ (by simp) h⟩)
  · exact .inr h
/-- the words of a row as __init__ asks them -/
def Told (K : PySem.W.Frag) (H : Hp) (l : Addr) (told : List (List Nat)) : Prop := (SqL K H l (tls told) ∧ TyX K H (.ref l) (.type "list")) ∨ (SqT K H l (tls told) ∧ TyX K H (.ref l) (.type "tuple"))
theorem Told.up {H H' : Hp} {l : Addr} {told : List (List Nat)} (e : Ext [] H H') (h : Told K H l told) : Told K H' l told :=
  h.elim (fun h => .inl ⟨sqL_up e h.1, ty_up e h.2⟩) (fun h => .inr ⟨sqT_up e h.1, ty_up e h.2⟩)
theorem Told.sq {H : Hp} {l : Addr} {told : List (List Nat)} (h : Told K H l told) : SqL K H l (tls told) ∨ SqT K H l (tls told) := h.elim (fun h => .inl h.1) (fun h => .inr h.1)
theorem by_Row_init (T : Tx.TX K mg) {f : Addr} : By P w K mg base 3 f Tx.N_Row_init "Row.__init__" (defBody Tx.s_Row_init) (defScope Tx.s_Row_init) (spRowInit K) := by
    rintro cdv A' outer s H vs Q E hr ⟨a, dx, l, v, told, far, rfl, ha, hl, hf, ok, q⟩
    have hl : Told K H l told := hl
    refine ⟨_, by exact (pss_cons (ps_if (PW.pt (pw_or (pt_not (pt_val (C8.pe_c (ok_is_list T) hr (by decide) rfl (pa_cons (pv 1) pa_nil)))) (pw_or1 (pt_cmpR op_gt (pe_callB call_len_seq (by rfl) T.b_len (by decide +kernel) (pa_cons (pv 1) pa_nil)) (pe_gi T.k_MOST_TOLD) (nomark _))))) (pss_one ps_never) pss_nil) (pss_cons (ps_j (ps_for PassesOwn.never rfl (pi_or (pi_list (pv 1)) (pi_tup (pv 1))) (pg_name (i := 3) Tx.sc_Row_init.nd rfl (Or.inl rfl)) (pss_one (ps_if (pt_not (pt_val (C8.pe_c (ok_is_word T) hr (by decide) rfl (pa_cons (pv 3) pa_nil)))) (pss_one ps_never) pss_nil)))) (pss_cons (ps_if (pt_not (pt_val (C8.pe_c (ok_is_far T) hr (by decide) rfl (pa_cons (pv 2) pa_nil)))) (pss_one ps_never) pss_nil) (pss_cons (ps_fld (pv 0) (pe_callTy call_list_of (by rfl) T.b_list (by decide +kernel) (pa_cons (pv 1) pa_nil)) rfl) (pss_one (ps_fld (pv 0) (pv 2) rfl)))))), ?_⟩
    have el : (tls told).length = told.length := List.length_map _
    have n8 := ok.n
    refine ⟨_, rfl, _, rfl, hl.elim (fun h => .inl h.2) (fun h => .inr h.2), fun H1 e1 => ⟨_, rfl, itF rfl ?_⟩⟩
    have hl1 := hl.up e1
    refine ⟨_, rfl, l, _, rfl, hl1.sq, _, _, rfl, rfl, _, rfl, itF (dF (by omega)) ?_⟩
    refine ⟨fun σ' H' => (∃ o, σ' = [some (.ref a), some (.ref l), some v, o]) ∧ Ext [] H H', ?_, ?_⟩
    · rcases hl1 with ⟨h1, _⟩ | ⟨h1, _⟩
      · refine .inl ⟨_, rfl, l, rfl, ⟨_, h1⟩, for_it (walk_list (K := K) (a := l) (xs := tls told)) (fun i σ H' => (∃ o, σ = [some (.ref a), some (.ref l), some v, o]) ∧ Ext [] H1 H') ⟨⟨none, rfl⟩, Ext.refl _⟩ (fun i σ H' _ h => sqL_up h.2 h1) ?_ (fun σ H' h => ⟨h.1, e1.trans h.2⟩)⟩
        rintro i x σ H2 H3 hi h ⟨rfl, hx⟩
        obtain ⟨⟨o, rfl⟩, e2⟩ := h
        unfold tls at hx
        rw [List.getElem?_map] at hx
        cases hc : told[i]? with
        | none => rw [hc] at hx; cases hx
        | some z =>
          rw [hc] at hx
          cases hx
          have oz := ok.w z (List.mem_of_getElem? hc)
          exact ⟨_, rfl, _, rfl, .inl ⟨_, rfl, by rw [tx_len]; exact Nat.le_trans oz.sz (by decide), fun H3 e3 => ⟨_, rfl, itF (by rw [wdB_of oz]; rfl) ⟨⟨_, rfl⟩, e2.trans e3⟩⟩⟩⟩
      · refine .inr ⟨_, rfl, l, rfl, ⟨_, h1⟩, for_it (walk_tup (K := K) (a := l) (xs := tls told)) (fun i σ H' => (∃ o, σ = [some (.ref a), some (.ref l), some v, o]) ∧ Ext [] H1 H') ⟨⟨none, rfl⟩, Ext.refl _⟩ (fun i σ H' _ h => sqT_up h.2 h1) ?_ (fun σ H' h => ⟨h.1, e1.trans h.2⟩)⟩
        rintro i x σ H2 H3 hi h ⟨rfl, hx⟩
        obtain ⟨⟨o, rfl⟩, e2⟩ := h
        unfold tls at hx
        rw [List.getElem?_map] at hx
        cases hc : told[i]? with
        | none => rw [hc] at hx; cases hx
        | some z =>
          rw [hc] at hx
          cases hx
          have oz := ok.w z (List.mem_of_getElem? hc)
          exact ⟨_, rfl, _, rfl, .inl ⟨_, rfl, by rw [tx_len]; exact Nat.le_trans oz.sz (by decide), fun H3 e3 => ⟨_, rfl, itF (by rw [wdB_of oz]; rfl) ⟨⟨_, rfl⟩, e2.trans e3⟩⟩⟩⟩
    · rintro σ' H2 ⟨⟨o, rfl⟩, e2⟩
      refine ⟨_, rfl, far, v, rfl, hf.ext0 e2, ok.f, fun H3 e3 => ⟨_, rfl, itF rfl ?_⟩⟩
      have e23 := e2.trans e3
      have hl3 := hl.up e23
      have ha3 := e23 a _ (by simp) ha
      refine ⟨_, rfl, l, _, rfl, hl3.sq, fun t ht => ?_⟩
      have nt : a ≠ t := ne_of_none ha3 ht
      refine ⟨_, rfl, a, _, dx, _, rfl, (by rw [upd_ne nt]; exact ha3), T.c_Row, T.na_Row_own_told, by decide, _, rfl, _, rfl, a, _, dx, _, rfl, upd_same, T.c_Row, T.na_Row_own_far, putF_lt 0 (Nat.le_refl _) (by decide), ?_⟩
      have ex : Ext [a] H (upd (upd (upd H3 t (.lst (tls told))) a (.ins (cRow K) dx (putF "own_told" (.ref t) []))) a (.ins (cRow K) dx (putF "own_far" v (putF "own_told" (.ref t) [])))) := ((e23.sub (by simp)).trans (Ext.new ht)).trans ((Ext.put mem1).trans (Ext.put mem1))
      refine q t _ (Ext.free e23 ht) ex ⟨⟨dx, v, by rw [upd_same, rowF_put], hf.ext ex fun b hb C dy A B z => ?_⟩, ?_⟩
      · cases List.mem_singleton.mp hb
        rw [ha] at z
        cases z
      · rw [upd_ne nt.symm, upd_ne nt.symm, upd_same]
end
end K15
set_option maxHeartbeats 4000000
namespace K15
open PySem PySem.Spec PyProof.Rows L2 Eb
section
variable {P : Program} {w : World} {K : PySem.W.Frag} {mg : Str → Option Value} {base : Heap}
theorem len_Row_init : ∀ vs H Q E, spRowInit K vs H Q E → vs.length = (["self", "words", "far"] : List Str).length := by
  rintro vs H Q E ⟨a, dx, l, v, told, far, rfl, _⟩; rfl
theorem ok_Row_init (T : Tx.TX K mg) : C8.Mak P w K mg base 4 "Row" (cRow K) (spRowInit K) [] :=
  makD1 (k := 3) T.d_Row_init T.mk_Row T.g_Row Tx.sc_Row_init 3 2 (by simp) rfl (fun _ _ _ _ _ _ _ us its h1 h2 => match us, its, h1, h2 with | [_, _, _], [_, _], _, _ => ⟨_, rfl, rfl⟩) len_Row_init (by_Row_init T)
theorem ok_Row_init0 (T : Tx.TX K mg) : C8.Mak P w K mg base 4 "Row" (cRow K) (spRowInit K) [.ref (He.dflAt ("Row", some "__init__") 0 K), .str ""] :=
  makD1 (k := 3) T.d_Row_init T.mk_Row T.g_Row Tx.sc_Row_init 1 0 (by simp) rfl (fun _ _ _ _ _ _ _ us its h1 h2 => match us, its, h1, h2 with | [_], [_, _], _, _ => ⟨_, rfl, rfl⟩) len_Row_init (by_Row_init T)
theorem ok_Row_copy (T : Tx.TX K mg) : C8.Met P w K mg base 6 (He.ga K "Row") "copy" (spRowCopy K) [] := by
  refine metD (k := 5) T.d_Row_copy T.c_Row T.m_Row_copy Tx.sc_Row_copy (fun _ _ _ _ _ _ us hl => match us, hl with | [_], _ => rfl) ?len ?run
  case len => rintro vs H Q E ⟨a, t, told, far, rfl, _⟩; rfl
  case run =>
    rintro cdv A' outer s H vs Q E hr ⟨a, t, told, far, rfl, R, ok, q⟩
    obtain ⟨⟨dx, v, ha, hf⟩, ht⟩ := id R
    refine ⟨_, by exact (pss_one (ps_ret (C8.pe_mk (ok_Row_init T) hr (by decide) rfl (pa_cons (pe_fld (pv 0) rfl) (pa_cons (pe_fld (pv 0) rfl) pa_nil))))), ?_⟩
    refine ⟨_, rfl, a, _, dx, _, _, rfl, ha, T.c_Row, T.na_Row_own_told, rowF_t t v, _, rfl, a, _, dx, _, _, rfl, ha, T.c_Row, T.na_Row_own_far, rowF_f t v, fun x dy nx nd ne => ?_⟩
    have e0 : Ext [] H (upd (upd H dy (.own x)) x (.ins (cRow K) dy [])) := fun b o _ z => by
      rw [upd_ne (ne_of_none z nx), upd_ne (ne_of_none z nd)]; exact z
    refine ⟨x, dy, t, v, told, far, rfl, upd_same, .inl ⟨SqL.of (e0 t _ (by simp) ht), .base (.lst (e0 t _ (by simp) ht))⟩, hf.ext0 e0, ok, fun u H' nu e' R' => ⟨rfl, ?_⟩⟩
    exact q x u H' (Ext.made nx nd e') nx (Ext.free e0 nu) R'
theorem ok_Row_set_far (T : Tx.TX K mg) : C8.Met P w K mg base 4 (He.ga K "Row") "set_far" (spSetFar K) [] := by
  refine metD (k := 3) T.d_Row_set_far T.c_Row T.m_Row_set_far Tx.sc_Row_set_far (fun _ _ _ _ _ _ us hl => match us, hl with | [_, _], _ => rfl) ?len ?run
  case len => rintro vs H Q E ⟨a, t, told, far, far', v, rfl, _⟩; rfl
  case run =>
    rintro cdv A' outer s H vs Q E hr ⟨a, t, told, far, far', v, rfl, R, hf', ok, q⟩
    refine ⟨_, by exact (pss_cons (ps_if (pt_not (pt_val (C8.pe_c (ok_is_far T) hr (by decide) rfl (pa_cons (pv 1) pa_nil)))) (pss_one ps_never) pss_nil) (pss_one (ps_fld (pv 0) (pv 1) rfl))), ?_⟩
    refine ⟨_, rfl, far', v, rfl, hf', ok, fun H1 e1 => ⟨_, rfl, itF rfl ?_⟩⟩
    obtain ⟨⟨dx, v0, ha, hf⟩, ht⟩ := R.ext0 e1
    refine ⟨_, rfl, _, rfl, a, _, dx, _, rfl, ha, T.c_Row, T.na_Row_own_far, (by show 2 < 1000; decide), ?_⟩
    have nt : t ≠ a := ne_of ht ha (by intro z; cases z)
    have ex : Ext [a] H (upd H1 a (.ins (cRow K) dx (putF "own_far" v (rowF t v0)))) := (e1.sub (by simp)).trans (Ext.put mem1)
    refine q _ ex ⟨⟨dx, v, by rw [upd_same, rowF_set], ?_⟩, by rw [upd_ne nt]; exact ht⟩
    refine (hf'.ext0 e1).ext (Ext.put mem1) fun b hb C dy A B z => ?_
    cases List.mem_singleton.mp hb
    rw [ha] at z
    exact absurd (congrArg (fun o => match o with | some (HO.ins _ _ fs) => fs.length | _ => 0) z) (by show ¬ (2 = 3); decide)
theorem ok_Row_setitem (T : Tx.TX K mg) : C8.Met P w K mg base 5 (He.ga K "Row") "__setitem__" (spSetItem K) [] := by
  refine metD (k := 4) T.d_Row_setitem T.c_Row T.m_Row_setitem Tx.sc_Row_setitem (fun _ _ _ _ _ _ us hl => match us, hl with | [_, _, _], _ => rfl) ?len ?run
  case len => rintro vs H Q E ⟨a, t, told, far, d, l, rfl, _⟩; rfl
  case run =>
    rintro cdv A' outer s H vs Q E hr ⟨a, t, told, far, d, l, rfl, R, ok, hd, wl, q⟩
    refine ⟨_, by exact (pss_cons (ps_if (PW.pt (pw_or (pt_not (pt_val (C8.pe_c (ok_is_count T) hr (by decide) rfl (pa_cons (pv 1) pa_nil)))) (pw_or1 (pt_cmpR op_ge (pv 1) (pe_gi T.k_MOST_TOLD) (nomark _))))) (pss_one ps_never) pss_nil) (pss_cons (ps_if (pt_not (pt_val (C8.pe_c (ok_is_word T) hr (by decide) rfl (pa_cons (pv 2) pa_nil)))) (pss_one ps_never) pss_nil) (pss_cons (ps_while PassesOwn.never (pt_cmpR op_le (pe_callB call_len_seq (by rfl) T.b_len (by decide +kernel) (pa_cons (pe_fld (pv 0) rfl) pa_nil)) (pv 1) (nomark _)) (pss_one (ps_expr (pe_bm PySem.F.plainAttrs_list PySem.F.slot_list_append PySem.F.type_list_append mt_append (pe_fld (pv 0) rfl) (pa_cons (C8.pe_mt (ok_Row_word_at T) hr (by decide) (pv 0) (pa_cons (pe_callB call_len_seq (by rfl) T.b_len (by decide +kernel) (pa_cons (pe_fld (pv 0) rfl) pa_nil)) pa_nil)) pa_nil))))) (pss_one (ps_asg (pv 2) (pg_sub (pe_fld (pv 0) rfl) (pv 1) set_list)))))), ?_⟩
    refine ⟨_, rfl, d, rfl, _, rfl, itF (by rw [decide_eq_true (by omega)]; rfl) ?_⟩
    refine ⟨_, rfl, _, _, rfl, rfl, _, rfl, itF (dF (by omega)) ?_⟩
    refine ⟨_, rfl, _, rfl, .inl ⟨_, rfl, by rw [tx_len]; exact Nat.le_trans wl.sz (by decide), fun H1 e1 => ⟨_, rfl, itF (by rw [wdB_of wl]; rfl) ?_⟩⟩⟩
    have R1 := R.ext0 e1
    -- while len(self.own_told) <= at
    refine ⟨fun m σ H' => σ = [some (.ref a), some (.int d), some (.str (tx l))] ∧ Ext [t] H H' ∧ ∃ n, m = 9 - n ∧ told.length ≤ n ∧ n ≤ 8 ∧ RowAt K H' a t (upTo told far n) far ∧ n ≤ max told.length (d + 1), ⟨_, rfl, e1.sub (by simp), told.length, rfl, Nat.le_refl _, ok.n, by rw [upTo_self told far (Nat.le_refl _)]; exact R1, by omega⟩, ?_⟩
    rintro m σ H2 ⟨rfl, e2, n, rfl, n1, n2, R2, n3⟩
    obtain ⟨⟨dx, v, ha, hf⟩, ht⟩ := id R2
    have el : (tls (upTo told far n)).length = n := by unfold tls; rw [List.length_map, upTo_len]; omega
    have okn := upTo_ok ok n2
    · refine ⟨_, rfl, a, _, dx, _, _, rfl, ha, T.c_Row, T.na_Row_own_told, rowF_t t v, t, _, rfl, .inl (SqL.of ht), _, rfl, _, _, rfl, rfl, _, rfl, it2 (fun c => ?_) (fun c => ?_)⟩
      · have c' := of_decide_eq_true c
        rw [el] at c'
        refine ⟨fun σ' H' => σ' = [some (.ref a), some (.int d), some (.str (tx l))] ∧ Ext [t] H H' ∧ RowAt K H' a t (upTo told far (n + 1)) far, fun σ' H' h => ⟨9 - (n + 1), by omega, h.1, h.2.1, n + 1, rfl, by omega, by omega, h.2.2, by omega⟩, ?_⟩
        refine ⟨_, rfl, a, _, dx, _, _, rfl, ha, T.c_Row, T.na_Row_own_told, rowF_t t v, .inl ⟨rfl, _, SqL.of ht⟩, _, rfl, a, dx, _, rfl, ha, rowF_n1 t v, _, rfl, a, _, dx, _, _, rfl, ha, T.c_Row, T.na_Row_own_told, rowF_t t v, t, _, rfl, .inl (SqL.of ht), a, t, upTo told far n, far, n, (by rw [el]; rfl), R2, okn, ?_, fun H3 e3 => ?_⟩
        · exact Nat.lt_of_lt_of_le (show n < 2 ^ 10 by omega) (Nat.pow_le_pow_right (by decide) (by decide))
        · have R3 := R2.ext0 e3
          obtain ⟨⟨dx3, v3, ha3, hf3⟩, ht3⟩ := id R3
          refine ⟨t, _, _, rfl, rfl, ht3, by rw [el]; exact Nat.lt_of_le_of_lt n2 (by decide), rfl, (e2.trans (e3.sub (by simp))).trans (Ext.put mem1), ?_⟩
          have nat : a ≠ t := ne_of ha3 ht3 (by intro z; cases z)
          refine ⟨⟨dx3, v3, by rw [upd_ne nat]; exact ha3, hf3.ext (Ext.put mem1) fun b hb C dy A B z => ?_⟩, ?_⟩
          · cases List.mem_singleton.mp hb
            rw [ht3] at z
            cases z
          · rw [upd_same, wordAt_upTo, upTo_succ told far n1]
            unfold tls
            rw [List.map_append]; rfl
      · have c' := of_decide_eq_false c
        rw [el] at c'
        have en : upTo told far (d + 1) = upTo told far n := by
          by_cases h : d + 1 ≤ told.length
          · rw [upTo_self told far h]
            have : n = told.length := by omega
            rw [this, upTo_self told far (Nat.le_refl _)]
          · rw [show n = d + 1 by omega]
        have hd' : d < n := by omega
        refine ⟨_, rfl, _, rfl, a, _, dx, _, _, rfl, ha, T.c_Row, T.na_Row_own_told, rowF_t t v, _, rfl, t, _, _, d, rfl, rfl, ht, ?_, ?_⟩
        · unfold ixN
          rw [if_pos (by omega), if_pos (by omega)]
          simp
        · have nat : a ≠ t := ne_of ha ht (by intro z; cases z)
          refine q _ (e2.trans (Ext.put mem1)) ⟨⟨dx, v, by rw [upd_ne nat]; exact ha, hf.ext (Ext.put mem1) fun b hb C dy A B z => ?_⟩, ?_⟩
          · cases List.mem_singleton.mp hb
            rw [ht] at z
            cases z
          · rw [upd_same]
            unfold setAt tls
            rw [en, List.map_set]
end
end K15
set_option maxHeartbeats 4000000
namespace K15
open PySem PySem.Spec PyProof.Rows L2 Eb
/-! ## faults -/
def wd (told : List (List Nat)) (far : Far) (d : Nat) : Int := (wordAt told far d).length
def tFault (k : Str) (d : Nat) : PyData := .tuple [.str k, .int d]
def fF (wf : Nat → Int) (d : Nat) : Option PyData := if wf (d + 1) - wf d < 0 then some (tFault "shrinks" d) else if 1 < wf (d + 1) - wf d then some (tFault "jumps" d) else none
def fB (wf : Nat → Int) (d : Nat) : Option PyData := if wf d - wf (d + 1) < 0 then some (tFault "grows" d) else if 1 < wf d - wf (d + 1) then some (tFault "jumps" d) else none
def firstOf (f : Nat → Option PyData) (n : Nat) (z : PyData) : PyData := ((List.range n).findSome? f).getD z
theorem firstOf_none {f : Nat → Option PyData} {n : Nat} {z : PyData} (h : ∀ j, j < n → f j = none) : firstOf f n z = z := by
  unfold firstOf
  rw [List.findSome?_eq_none_iff.mpr (fun x hx => h x (List.mem_range.mp hx))]; rfl
theorem firstOf_some {f : Nat → Option PyData} {n : Nat} {z x : PyData} {i : Nat} (hi : i < n) (h : ∀ j, j < i → f j = none) (hx : f i = some x) : firstOf f n z = x := by
  unfold firstOf
  have e : (List.range n) = List.range i ++ i :: List.range' (i + 1) (n - i - 1) := by
    rw [List.range_eq_range', List.range_eq_range', show n = i + ((n - i - 1) + 1) by omega, ← List.range'_append, show i + (n - i - 1 + 1) - i - 1 = n - i - 1 by omega, Nat.zero_add, Nat.one_mul, List.range'_succ]
  rw [e, List.findSome?_append, List.findSome?_eq_none_iff.mpr (fun x hx => h x (List.mem_range.mp hx)), List.findSome?_cons, hx]; rfl
def fwd (told : List (List Nat)) (far : Far) : PyData := firstOf (fF (wd told far)) told.length .none
def bwd (told : List (List Nat)) (far : Far) : PyData := firstOf (fB (wd told far)) told.length (if isPat far then tFault "grows" 9 else .none)
def spFault (K : PySem.W.Frag) (F : List (List Nat) → Far → PyData) : Sp := fun vs H Q _ => ∃ (a t : Addr) (told : List (List Nat)) (far : Far), vs = [.ref a] ∧ RowAt K H a t told far ∧ RowOk told far ∧ ∀ v H', Ext [] H H' → Dat [] H' (F told far) v → Q v H'
theorem wds_get (told : List (List Nat)) (far : Far) {n d : Nat} (h : d < n) : (wds told far n)[d]? = some (.int (wd told far d)) := by
  unfold wds
  rw [List.getElem?_map, List.getElem?_range h]; rfl
theorem dat_fault {H : Hp} {p : Addr} {k : Str} {d : Nat} (h : H p = none) : Dat [] (upd H p (.tup [.str k, .int (d : Int)])) (tFault k d) (.ref p) := by
  unfold tFault
  refine dat_tup.mpr ⟨p, _, rfl, by simp, upd_same, ?_⟩
  exact dats_cons.mpr ⟨_, _, rfl, dat_str.mpr rfl, dats_cons.mpr ⟨_, _, rfl, dat_int.mpr rfl, dats_nil.mpr rfl⟩⟩
section
variable {P : Program} {w : World} {K : PySem.W.Frag} {mg : Str → Option Value} {base : Heap}
theorem ok_Row_forward_fault (T : Tx.TX K mg) : C8.Met P w K mg base 7 (He.ga K "Row") "forward_fault" (spFault K fwd) [] := by
  refine metD (k := 6) T.d_Row_forward_fault T.c_Row T.m_Row_forward_fault Tx.sc_Row_forward_fault (fun _ _ _ _ _ _ us hl => match us, hl with | [_], _ => rfl) ?len ?run
  case len => rintro vs H Q E ⟨a, t, told, far, rfl, _⟩; rfl
  case run =>
    rintro cdv A' outer s H vs Q E hr ⟨a, t, told, far, rfl, R, ok, q⟩
    obtain ⟨⟨dx, v, ha, hf⟩, ht⟩ := id R
    refine ⟨_, by exact (pss_cons (ps_set (i := 1) Tx.sc_Row_forward_fault.nd rfl (Or.inl rfl) (C8.pe_mt0 (ok_Row_widths T) hr (by decide) (pv 0))) (pss_cons (ps_for PassesOwn.never rfl (pi_range1 (by rfl) T.b_range (pa_cons (pe_callB call_len_seq (by rfl) T.b_len (by decide +kernel) (pa_cons (pe_fld (pv 0) rfl) pa_nil)) pa_nil)) (pg_name (i := 2) Tx.sc_Row_forward_fault.nd rfl (Or.inl rfl)) (pss_cons (ps_set (i := 3) Tx.sc_Row_forward_fault.nd rfl (Or.inl rfl) (pe_op op_sub (pe_ix ix_list (pv 1) (pe_op op_add (pv 2) pe_int) (fun _ _ => rfl)) (pe_ix ix_list (pv 1) (pv 2) (fun _ _ => rfl)))) (pss_one (ps_if (PW.pt (pw_or (pt_cmpR op_lt (pv 3) pe_int (nomark _)) (pw_or1 (pt_cmpR op_gt (pv 3) pe_int (nomark _))))) (pss_one (ps_ret (pe_tup (pa_cons (pe_j (pe_ifExp (pt_cmpR op_lt (pv 3) pe_int (nomark _)) (pe_gs T.k_SHRINKS) (pe_gs T.k_JUMPS))) (pa_cons (pv 2) pa_nil))))) pss_nil)))) (pss_one (ps_ret pe_non)))), ?_⟩
    have el : (tls told).length = told.length := List.length_map _
    have n8 := ok.n
    refine ⟨_, rfl, a, dx, _, rfl, ha, rowF_n4 t v, a, t, told, far, rfl, R, ok, fun p H1 e1 np hp => ?_⟩
    obtain ⟨⟨dx1, v1, ha1, hf1⟩, ht1⟩ := R.ext0 e1
    refine ⟨_, rfl, a, _, dx1, _, _, rfl, ha1, T.c_Row, T.na_Row_own_told, rowF_t t v1, t, _, rfl, .inl (SqL.of ht1), _, rfl, by omega, by omega, for_it walk_range (fun i σ H' => (∃ o1 o2, σ = [some (.ref a), some (.ref p), o1, o2]) ∧ Ext [] H H' ∧ H' p = some (.lst (wds told far (told.length + 1))) ∧ ∀ j, j < i → fF (wd told far) j = none) ⟨⟨_, _, rfl⟩, e1, hp, fun j h => by omega⟩ (fun _ _ _ _ _ => trivial) ?_ ?_⟩
    · rintro i x σ H2' H2 hi ⟨⟨o1, o2, rfl⟩, e2, hp2, none_⟩ ⟨rfl, rfl⟩
      have hi' : i < told.length := by omega
      refine ⟨_, rfl, _, rfl, _, _, rfl, rfl, p, _, _, _, rfl, rfl, SqL.of hp2, at_g (j := i + 1) (by omega) (wds_get told far (d := i + 1) (by omega)), _, rfl, _, rfl, p, _, _, _, rfl, rfl, SqL.of hp2, at_g (j := i) (by omega) (wds_get told far (d := i) (by omega)), _, _, rfl, rfl, ?_⟩
      have ret : ∀ k : Str, fF (wd told far) i = some (tFault k i) → ∀ t', H2 t' = none → Q (.ref t') (upd H2 t' (.tup [.str k, .int (0 + (i : Int))])) := fun k hk t' nt => by
        rw [Int.zero_add]
        refine q _ _ (e2.trans (Ext.new nt)) ?_
        unfold fwd
        rw [firstOf_some hi' none_ hk]
        exact dat_fault nt
      refine ⟨_, rfl, _, _, rfl, rfl, _, rfl, it2 (fun c => ?_) (fun c => ?_)⟩
      · have c' := of_decide_eq_true c
        refine ⟨fun v H' => v = .str "shrinks" ∧ H' = H2, ⟨_, rfl, _, _, rfl, rfl, _, rfl, itT (dT c') ⟨rfl, rfl⟩⟩, ?_⟩
        rintro v H' ⟨rfl, rfl⟩
        exact ⟨_, rfl, (by show 2 ≤ sizeLine; decide), fun t' nt => ret _ (by unfold fF; rw [if_pos c']) t' nt⟩
      · have c' := of_decide_eq_false c
        refine ⟨_, rfl, _, _, rfl, rfl, _, rfl, it2 (fun c2 => ?_) (fun c2 => ?_)⟩
        · have c2' := of_decide_eq_true c2
          refine ⟨fun v H' => v = .str "jumps" ∧ H' = H2, ⟨_, rfl, _, _, rfl, rfl, _, rfl, itF (dF c') ⟨rfl, rfl⟩⟩, ?_⟩
          rintro v H' ⟨rfl, rfl⟩
          exact ⟨_, rfl, (by show 2 ≤ sizeLine; decide), fun t' nt => ret _ (by unfold fF; rw [if_neg c', if_pos c2']) t' nt⟩
        · have c2' := of_decide_eq_false c2
          refine ⟨⟨_, _, rfl⟩, e2, hp2, fun j hj => ?_⟩
          by_cases h : j = i
          · subst h
            unfold fF
            rw [if_neg c', if_neg c2']
          · exact none_ j (by omega)
    · rintro σ H2 ⟨⟨o1, o2, rfl⟩, e2, hp2, none_⟩
      refine q .non H2 e2 ?_
      unfold fwd
      rw [firstOf_none (fun j hj => none_ j (by omega))]
      exact dat_none.mpr rfl
theorem ok_Row_backward_fault (T : Tx.TX K mg) : C8.Met P w K mg base 7 (He.ga K "Row") "backward_fault" (spFault K bwd) [] := by
  refine metD (k := 6) T.d_Row_backward_fault T.c_Row T.m_Row_backward_fault Tx.sc_Row_backward_fault (fun _ _ _ _ _ _ us hl => match us, hl with | [_], _ => rfl) ?len ?run
  case len => rintro vs H Q E ⟨a, t, told, far, rfl, _⟩; rfl
  case run =>
    rintro cdv A' outer s H vs Q E hr ⟨a, t, told, far, rfl, R, ok, q⟩
    obtain ⟨⟨dx, v, ha, hf⟩, ht⟩ := id R
    refine ⟨_, by exact (pss_cons (ps_set (i := 1) Tx.sc_Row_backward_fault.nd rfl (Or.inl rfl) (C8.pe_mt0 (ok_Row_widths T) hr (by decide) (pv 0))) (pss_cons (ps_for PassesOwn.never rfl (pi_range1 (by rfl) T.b_range (pa_cons (pe_callB call_len_seq (by rfl) T.b_len (by decide +kernel) (pa_cons (pe_fld (pv 0) rfl) pa_nil)) pa_nil)) (pg_name (i := 2) Tx.sc_Row_backward_fault.nd rfl (Or.inl rfl)) (pss_cons (ps_set (i := 3) Tx.sc_Row_backward_fault.nd rfl (Or.inl rfl) (pe_op op_sub (pe_ix ix_list (pv 1) (pv 2) (fun _ _ => rfl)) (pe_ix ix_list (pv 1) (pe_op op_add (pv 2) pe_int) (fun _ _ => rfl)))) (pss_one (ps_if (PW.pt (pw_or (pt_cmpR op_lt (pv 3) pe_int (nomark _)) (pw_or1 (pt_cmpR op_gt (pv 3) pe_int (nomark _))))) (pss_one (ps_ret (pe_tup (pa_cons (pe_j (pe_ifExp (pt_cmpR op_lt (pv 3) pe_int (nomark _)) (pe_gs T.k_GROWS) (pe_gs T.k_JUMPS))) (pa_cons (pv 2) pa_nil))))) pss_nil)))) (pss_one (ps_ret (pe_ifExp (pt_val (C8.pe_mt0 (ok_Row_has_pattern T) hr (by decide) (pv 0))) (pe_tup (pa_cons (pe_gs T.k_GROWS) (pa_cons (pe_gi T.k_LAST_OF_ONE_DIGIT) pa_nil))) pe_non))))), ?_⟩
    have el : (tls told).length = told.length := List.length_map _
    have n8 := ok.n
    refine ⟨_, rfl, a, dx, _, rfl, ha, rowF_n4 t v, a, t, told, far, rfl, R, ok, fun p H1 e1 np hp => ?_⟩
    obtain ⟨⟨dx1, v1, ha1, hf1⟩, ht1⟩ := R.ext0 e1
    refine ⟨_, rfl, a, _, dx1, _, _, rfl, ha1, T.c_Row, T.na_Row_own_told, rowF_t t v1, t, _, rfl, .inl (SqL.of ht1), _, rfl, by omega, by omega, for_it walk_range (fun i σ H' => (∃ o1 o2, σ = [some (.ref a), some (.ref p), o1, o2]) ∧ Ext [] H H' ∧ H' p = some (.lst (wds told far (told.length + 1))) ∧ ∀ j, j < i → fB (wd told far) j = none) ⟨⟨_, _, rfl⟩, e1, hp, fun j h => by omega⟩ (fun _ _ _ _ _ => trivial) ?_ ?_⟩
    · rintro i x σ H2' H2 hi ⟨⟨o1, o2, rfl⟩, e2, hp2, none_⟩ ⟨rfl, rfl⟩
      have hi' : i < told.length := by omega
      refine ⟨_, rfl, _, rfl, p, _, _, _, rfl, rfl, SqL.of hp2, at_g (j := i) (by omega) (wds_get told far (d := i) (by omega)), _, rfl, _, rfl, _, _, rfl, rfl, p, _, _, _, rfl, rfl, SqL.of hp2, at_g (j := i + 1) (by omega) (wds_get told far (d := i + 1) (by omega)), _, _, rfl, rfl, ?_⟩
      have ret : ∀ k : Str, fB (wd told far) i = some (tFault k i) → ∀ t', H2 t' = none → Q (.ref t') (upd H2 t' (.tup [.str k, .int (0 + (i : Int))])) := fun k hk t' nt => by
        rw [Int.zero_add]
        refine q _ _ (e2.trans (Ext.new nt)) ?_
        unfold bwd
        rw [firstOf_some hi' none_ hk]
        exact dat_fault nt
      refine ⟨_, rfl, _, _, rfl, rfl, _, rfl, it2 (fun c => ?_) (fun c => ?_)⟩
      · have c' := of_decide_eq_true c
        refine ⟨fun v H' => v = .str "grows" ∧ H' = H2, ⟨_, rfl, _, _, rfl, rfl, _, rfl, itT (dT c') ⟨rfl, rfl⟩⟩, ?_⟩
        rintro v H' ⟨rfl, rfl⟩
        exact ⟨_, rfl, (by show 2 ≤ sizeLine; decide), fun t' nt => ret _ (by unfold fB; rw [if_pos c']) t' nt⟩
      · have c' := of_decide_eq_false c
        refine ⟨_, rfl, _, _, rfl, rfl, _, rfl, it2 (fun c2 => ?_) (fun c2 => ?_)⟩
        · have c2' := of_decide_eq_true c2
          refine ⟨fun v H' => v = .str "jumps" ∧ H' = H2, ⟨_, rfl, _, _, rfl, rfl, _, rfl, itF (dF c') ⟨rfl, rfl⟩⟩, ?_⟩
          rintro v H' ⟨rfl, rfl⟩
          exact ⟨_, rfl, (by show 2 ≤ sizeLine; decide), fun t' nt => ret _ (by unfold fB; rw [if_neg c', if_pos c2']) t' nt⟩
        · have c2' := of_decide_eq_false c2
          refine ⟨⟨_, _, rfl⟩, e2, hp2, fun j hj => ?_⟩
          by_cases h : j = i
          · subst h
            unfold fB
            rw [if_neg c', if_neg c2']
          · exact none_ j (by omega)
    · rintro σ H2 ⟨⟨o1, o2, rfl⟩, e2, hp2, none_⟩
      have R2 := R.ext0 e2
      obtain ⟨⟨dx2, v2, ha2, hf2⟩, ht2⟩ := id R2
      have e : bwd told far = if isPat far then tFault "grows" 9 else .none := by
        unfold bwd
        exact firstOf_none (fun j hj => none_ j (by omega))
      refine ⟨_, rfl, a, dx2, _, rfl, ha2, rowF_n2 t v2, a, t, told, far, rfl, R2, _, rfl, it2 (fun c => ?_) (fun c => ?_)⟩
      · rw [if_pos c] at e
        refine ⟨(by show 2 ≤ sizeLine; decide), fun t' nt => q _ _ (e2.trans (Ext.new nt)) ?_⟩
        rw [e]
        exact dat_fault (d := 9) nt
      · rw [if_neg (by rw [c]; decide)] at e
        exact q .non H2 e2 (by rw [e]; exact dat_none.mpr rfl)
end
end K15
set_option maxHeartbeats 4000000
namespace K15
open PySem PySem.Spec PyProof.Rows L2 Eb
/-! ## the law's own plans -/
def spWord : Sp := fun vs H Q _ => ∃ (r : Addr) (n : Nat), vs = [.ref r, .int n] ∧ RngAt H r ∧ n ≤ 100 ∧ ∀ (l : List Nat) (H' : Hp), l.length = n → okL l → Ext [r] H H' → RngAt H' r → Q (.str (tx l)) H'
def spAnyWord : Sp := fun vs H Q _ => ∃ r : Addr, vs = [.ref r] ∧ RngAt H r ∧ ∀ (l : List Nat) (H' : Hp), WOk l → Ext [r] H H' → RngAt H' r → Q (.str (tx l)) H'
def spPatText : Sp := fun vs H Q _ => ∃ r : Addr, vs = [.ref r] ∧ RngAt H r ∧ ∀ (A B : List Nat) (H' : Hp), PatOk A B → Ext [r] H H' → RngAt H' r → Q (.str (tx (A ++ 35 :: B))) H'
def farT : Far → List Nat
  | .word l => l
  | .pat A B => A ++ 35 :: B
/-- a plan: a tuple of the told words and the text of the far word -/
structure PlanAt (H : Hp) (p l : Addr) (told : List (List Nat)) (far : Far) : Prop where
  tp : H p = some (.tup [.ref l, .str (tx (farT far))])
  ls : H l = some (.lst (tls told))
theorem PlanAt.ext {R : List Addr} {H H' : Hp} {p l : Addr} {told : List (List Nat)} {far : Far} (h : PlanAt H p l told far) (e : Ext R H H') (np : p ∉ R) (nl : l ∉ R) : PlanAt H' p l told far := ⟨e p _ np h.tp, e l _ nl h.ls⟩
theorem PlanAt.ext0 {H H' : Hp} {p l : Addr} {told : List (List Nat)} {far : Far} (h : PlanAt H p l told far) (e : Ext [] H H') : PlanAt H' p l told far := h.ext e (by simp) (by simp)
theorem PlanAt.extR {H H' : Hp} {p l r : Addr} {told : List (List Nat)} {far : Far} (h : PlanAt H p l told far) (hR : RngAt H r) (e : Ext [r] H H') : PlanAt H' p l told far := by
  obtain ⟨x, y, h1, _⟩ := hR
  refine h.ext e ?_ ?_
  · intro z; cases List.mem_singleton.mp z; have := h.tp; rw [h1] at this; cases this
  · intro z; cases List.mem_singleton.mp z; have := h.ls; rw [h1] at this; exact tls_ne told x y (HO.lst.inj (Option.some.inj this)).symm
def spPlan : Sp := fun vs H Q _ => ∃ r : Addr, vs = [.ref r] ∧ RngAt H r ∧ ∀ (p l : Addr) (told : List (List Nat)) (far : Far) (H' : Hp), RowOk told far → Ext [r] H H' → RngAt H' r → H p = none → H l = none → PlanAt H' p l told far → Q (.ref p) H'
def spFar (K : PySem.W.Frag) : Sp := fun vs H Q _ => ∃ far : Far, vs = [.str (tx (farT far))] ∧ FarOk far ∧ ∀ v H', Ext [] H H' → FarAt K H' far v → Q v H'
def spReal (K : PySem.W.Frag) : Sp := fun vs H Q _ => ∃ (p l : Addr) (told : List (List Nat)) (far : Far), vs = [.ref p] ∧ PlanAt H p l told far ∧ RowOk told far ∧ ∀ a t H', Ext [] H H' → H a = none → H t = none → RowAt K H' a t told far → Q (.ref a) H'
def spAt : Sp := fun vs H Q _ => ∃ (p l : Addr) (told : List (List Nat)) (far : Far) (d : Nat), vs = [.ref p, .int d] ∧ PlanAt H p l told far ∧ RowOk told far ∧ d < 2 ^ 1900 ∧ ∀ H', Ext [] H H' → Q (.str (tx (wordAt told far d))) H'
theorem okL_ne {l : List Nat} (h : okL l) : ∀ c ∈ l, c ≠ 35 := fun c hc e => by
  have := List.all_eq_true.mp h c hc
  rw [e] at this
  exact absurd this (by decide)
theorem okL_mem {l : List Nat} (h : ∀ c ∈ l, okC c = true) : okL l := List.all_eq_true.mpr h
theorem okL_take {l : List Nat} (n : Nat) (h : okL l) : okL (l.take n) := okL_mem fun c hc => List.all_eq_true.mp h c (List.mem_of_mem_take hc)
theorem okL_drop {l : List Nat} (n : Nat) (h : okL l) : okL (l.drop n) := okL_mem fun c hc => List.all_eq_true.mp h c (List.mem_of_mem_drop hc)
theorem hash_mem (far : Far) (h : FarOk far) : decide (35 ∈ (tx (farT far)).cps.toList) = isPat far := by
  rw [tx_list]
  cases far with
  | word l => exact decide_eq_false fun z => okL_ne h.ok 35 z rfl
  | pat A B => exact decide_eq_true (by simp [farT])
section
variable {P : Program} {w : World} {K : PySem.W.Frag} {mg : Str → Option Value} {base : Heap}
theorem ok__law_word (T : Tx.TX K mg) : C8.Cal P w K mg base 3 "_law_word" (spWord) [] := by
  refine calD (k := 2) T.d__law_word T.g__law_word Tx.sc__law_word (fun _ _ _ _ _ _ us hl => match us, hl with | [_, _], _ => rfl) ?len ?run
  case len => rintro vs H Q E ⟨r, n, rfl, _⟩; rfl
  case run =>
    rintro cdv A' outer s H vs Q E hr ⟨r, n, rfl, hR, hn, q⟩
    refine ⟨_, by exact (pss_cons (ps_set (i := 2) Tx.sc__law_word.nd rfl (Or.inr rfl) pe_str) (pss_one (ps_ret (pe_join pe_str (pe_lc (own := [("_law_turn", 3)]) (g := gName 3) (tt := tYes) rfl Tx.sc__law_word.nd (pi_range1 (by rfl) T.b_range (pa_cons (pv 1) pa_nil)) (blkOk_by (own := [("_law_turn", 3)]) (N := Tx.N__law_word) (sc := defScope Tx.s__law_word) (by decide +kernel)) (fun _ _ _ _ _ => (pg_name (i := 3) Tx.sc__law_word.nd rfl (Or.inl rfl))) (fun _ _ _ _ _ => pts_nil) (fun _ _ _ _ _ => (C8.pe_c (ok__law_choice T) hr (by decide) rfl (pa_cons (pv 0) (pa_cons (pv 2) pa_nil))))))))), ?_⟩
    refine ⟨⟨_, rfl⟩, _, rfl, _, rfl, by omega, by omega, fun D hD => ?_⟩
    have nD : D ≠ r := RngAt.ne hR hD
    refine lc_it walk_range (fun i H' => ∃ l : List Nat, l.length = i ∧ okL l ∧ H' D = some (.lst (l.map sg)) ∧ Ext [r] H H' ∧ RngAt H' r) ⟨[], rfl, rfl, upd_same, Ext.new hD, hR.new hD⟩ (fun _ _ _ _ => trivial) ?_ ?_
    · rintro i x H1 H2 hi ⟨l, l1, l2, g1, g2, g3⟩ ⟨rfl, rfl⟩
      refine ⟨rfl, _, rfl, _, rfl, .inr ⟨r, _, rfl, g3, by decide +kernel, by decide +kernel, fun c H3 hc e3 R3 => ?_⟩⟩
      refine ⟨_, e3 D _ (by simpa using nD) g1, ?_, l ++ [c], by simp [l1], okL_app l2 ?_, ?_, Ext.mut (g2.trans e3) hD, ?_⟩
      · rw [List.length_map, l1]
        exact Nat.lt_of_lt_of_le (show i < 1000 by omega) (by decide)
      · have hs : ∀ c ∈ (PySem.Str.ofString " ab9 !$&'()*+,-./0123456789:;<=>?@ABCDEFGHIJKLMNOPQRSTUVWXYZ[]^_`abcdefghijklmnopqrstuvwxyz{|}~").cps.toList, okC c = true := by decide +kernel
        exact okL_mem fun c' hc' => by cases List.mem_singleton.mp hc'; exact hs c hc
      · rw [upd_same, List.map_append]; rfl
      · obtain ⟨a, b, h1, h2⟩ := R3
        exact ⟨a, b, by rw [upd_ne nD.symm]; exact h1, h2⟩
    · rintro H1 ⟨l, l1, l2, g1, g2, g3⟩
      have en : ((n : Int)).toNat = n := by omega
      refine ⟨_, D, l.map (fun c => tx [c]), rfl, rfl, .inl (SqL.of (by rw [g1, List.map_map]; rfl)), ?_, ?_⟩
      · have z : (PySem.Str.ofString "").length = 0 := by decide +kernel
        rw [z, Nat.mul_zero, Nat.add_zero, List.map_map]
        have : ((l.map ((fun x => x.length) ∘ fun c => tx [c])).sum) = l.length := by
          clear l1 l2 g1
          induction l with
          | nil => rfl
          | cons c r ih => rw [List.map_cons, List.sum_cons, ih, List.length_cons]; show 1 + _ = _; omega
        rw [this, l1]
        omega
      · rw [join_signs]
        exact q l H1 (by omega) l2 g2 g3
theorem ok__law_any_word (T : Tx.TX K mg) : C8.Cal P w K mg base 4 "_law_any_word" (spAnyWord) [] := by
  refine calD (k := 3) T.d__law_any_word T.g__law_any_word Tx.sc__law_any_word (fun _ _ _ _ _ _ us hl => match us, hl with | [_], _ => rfl) ?len ?run
  case len => rintro vs H Q E ⟨r, rfl, _⟩; rfl
  case run =>
    rintro cdv A' outer s H vs Q E hr ⟨r, rfl, hR, q⟩
    refine ⟨_, by exact (pss_one (ps_ret (C8.pe_c (ok__law_word T) hr (by decide) rfl (pa_cons (pv 0) (pa_cons (C8.pe_c (ok__law_choice T) hr (by decide) rfl (pa_cons (pv 0) (pa_cons (pe_lst (pa_cons pe_int (pa_cons pe_int (pa_cons pe_int (pa_cons pe_int (pa_cons pe_int (pa_cons pe_int (pa_cons pe_int (pa_cons pe_int (pa_cons pe_int (pa_cons pe_int pa_nil))))))))))) pa_nil))) pa_nil))))), ?_⟩
    refine ⟨_, rfl, _, rfl, (by show 10 ≤ sizeLine; decide), fun p np => .inl ⟨r, p, _, rfl, hR.new np, RngAt.ne hR np, upd_same, by decide, by decide, fun v H1 hv e1 R1 => ?_⟩⟩
    have : ∃ n : Nat, n ≤ 20 ∧ v = .int n := by
      simp only [List.mem_cons, List.not_mem_nil, or_false] at hv
      rcases hv with rfl | rfl | rfl | rfl | rfl | rfl | rfl | rfl | rfl | rfl
      · exact ⟨0, by decide, rfl⟩
      · exact ⟨1, by decide, rfl⟩
      · exact ⟨2, by decide, rfl⟩
      · exact ⟨3, by decide, rfl⟩
      · exact ⟨4, by decide, rfl⟩
      · exact ⟨5, by decide, rfl⟩
      · exact ⟨7, by decide, rfl⟩
      · exact ⟨10, by decide, rfl⟩
      · exact ⟨19, by decide, rfl⟩
      · exact ⟨20, by decide, rfl⟩
    obtain ⟨n, hn, rfl⟩ := this
    exact ⟨r, n, rfl, R1, by omega, fun l H2 l1 l2 e2 R2 => q l H2 ⟨by omega, l2⟩ (((Ext.new np).trans e1).trans e2) R2⟩
theorem ok__law_pattern_text (T : Tx.TX K mg) : C8.Cal P w K mg base 4 "_law_pattern_text" (spPatText) [] := by
  refine calD (k := 3) T.d__law_pattern_text T.g__law_pattern_text Tx.sc__law_pattern_text (fun _ _ _ _ _ _ us hl => match us, hl with | [_], _ => rfl) ?len ?run
  case len => rintro vs H Q E ⟨r, rfl, _⟩; rfl
  case run =>
    rintro cdv A' outer s H vs Q E hr ⟨r, rfl, hR, q⟩
    refine ⟨_, by exact (pss_cons (ps_set (i := 1) Tx.sc__law_pattern_text.nd rfl (Or.inl rfl) (C8.pe_c (ok__law_word T) hr (by decide) rfl (pa_cons (pv 0) (pa_cons (C8.pe_c (ok__law_choice T) hr (by decide) rfl (pa_cons (pv 0) (pa_cons (pe_lst (pa_cons pe_int (pa_cons pe_int (pa_cons pe_int (pa_cons pe_int (pa_cons pe_int (pa_cons pe_int (pa_cons pe_int (pa_cons pe_int pa_nil))))))))) pa_nil))) pa_nil)))) (pss_cons (ps_set (i := 2) Tx.sc__law_pattern_text.nd rfl (Or.inl rfl) (C8.pe_c (ok__law_draw T) hr (by decide) rfl (pa_cons (pv 0) (pa_cons (pe_op op_add (pe_callB call_len_str (by rfl) T.b_len (by decide +kernel) (pa_cons (pv 1) pa_nil)) pe_int) pa_nil)))) (pss_one (ps_ret (pe_op op_add_str (pe_op op_add_str (pe_slice sl_str (pv 1) po_none (po_some (pv 2))) pe_str) (pe_slice sl_str (pv 1) (po_some (pv 2)) po_none)))))), ?_⟩
    refine ⟨_, rfl, _, rfl, (by show 8 ≤ sizeLine; decide), fun p np => .inl ⟨r, p, _, rfl, hR.new np, RngAt.ne hR np, upd_same, by decide, by decide, fun v H1 hv e1 R1 => ?_⟩⟩
    have : ∃ n : Nat, n ≤ 19 ∧ v = .int n := by
      simp only [List.mem_cons, List.not_mem_nil, or_false] at hv
      rcases hv with rfl | rfl | rfl | rfl | rfl | rfl | rfl | rfl
      · exact ⟨0, by decide, rfl⟩
      · exact ⟨0, by decide, rfl⟩
      · exact ⟨1, by decide, rfl⟩
      · exact ⟨2, by decide, rfl⟩
      · exact ⟨5, by decide, rfl⟩
      · exact ⟨13, by decide, rfl⟩
      · exact ⟨18, by decide, rfl⟩
      · exact ⟨19, by decide, rfl⟩
    obtain ⟨n, hn, rfl⟩ := this
    refine ⟨r, n, rfl, R1, by omega, fun l H2 l1 l2 e2 R2 => ?_⟩
    refine ⟨_, rfl, _, rfl, _, rfl, by rw [tx_len]; exact sz1000 (by omega), _, _, rfl, rfl, r, _, rfl, R2, by rw [tx_len]; omega, by rw [tx_len]; omega, fun d H3 d0 d1 e3 R3 => ?_⟩
    have ed : d = ((d.toNat : Nat) : Int) := by omega
    rw [tx_len] at d1
    have sl : (tx l).length ≤ sizeLine := by rw [tx_len]; exact sz1000 (by omega)
    have hz : (PySem.Str.ofString "#").length = 1 := by decide +kernel
    have h35 : (PySem.Str.ofString "#" : Str) = tx [35] := by rw [hash_eq]; rfl
    rw [ed]
    refine ⟨_, rfl, _, rfl, _, rfl, _, rfl, sl, _, _, rfl, rfl, ?_, _, rfl, _, rfl, _, rfl, _, rfl, sl, _, _, rfl, rfl, ?_, ?_⟩
    · rw [cut_to, tx_len, hz, List.length_take]; exact sz1000 (by omega)
    · rw [cut_to, cut_from, h35, tx_app, tx_len, tx_len, List.length_append, List.length_take, List.length_drop]; exact sz1000 (by simp; omega)
    · rw [cut_to, cut_from, h35, tx_app, tx_app]
      have := q (l.take d.toNat) (l.drop d.toNat) H3 ⟨okL_take _ l2, okL_drop _ l2, by rw [List.length_take, List.length_drop]; omega⟩ ((((Ext.new np).trans e1).trans e2).trans e3) R3
      simpa using this
theorem ok__law_far (T : Tx.TX K mg) : C8.Cal P w K mg base 5 "_law_far" (spFar K) [] := by
  refine calD (k := 4) T.d__law_far T.g__law_far Tx.sc__law_far (fun _ _ _ _ _ _ us hl => match us, hl with | [_], _ => rfl) ?len ?run
  case len => rintro vs H Q E ⟨far, rfl, _⟩; rfl
  case run =>
    rintro cdv A' outer s H vs Q E hr ⟨far, rfl, ok, q⟩
    refine ⟨_, by exact (pss_one (ps_ret (pe_ifExp (pt_cmpR op_in_sign pe_str (pv 0) (by rfl)) (C8.pe_mk (ok_Pattern_init T) hr (by decide) rfl (pa_cons (pv 0) pa_nil)) (pv 0)))), ?_⟩
    refine ⟨_, rfl, 35, _, (by rw [hash_eq]), rfl, _, rfl, ?_⟩
    rw [hash_mem far ok]
    cases far with
    | word l => exact itF rfl ⟨_, rfl, q _ H (Ext.refl H) rfl⟩
    | pat A B =>
      refine itT rfl ⟨_, rfl, fun x dx nx nd ne => ⟨x, dx, A, B, rfl, upd_same, ok, fun H' e' PA => ⟨rfl, ?_⟩⟩⟩
      exact q _ H' (Ext.made nx nd e') ⟨x, rfl, PA⟩
theorem ok__law_real (T : Tx.TX K mg) : C8.Cal P w K mg base 6 "_law_real" (spReal K) [] := by
  refine calD (k := 5) T.d__law_real T.g__law_real Tx.sc__law_real (fun _ _ _ _ _ _ us hl => match us, hl with | [_], _ => rfl) ?len ?run
  case len => rintro vs H Q E ⟨p, l, told, far, rfl, _⟩; rfl
  case run =>
    rintro cdv A' outer s H vs Q E hr ⟨p, l, told, far, rfl, PA, ok, q⟩
    refine ⟨_, by exact (pss_one (ps_ret (C8.pe_mk (ok_Row_init T) hr (by decide) rfl (pa_cons (pe_callTy call_list_of (by rfl) T.b_list (by decide +kernel) (pa_cons (pe_ix ix_tup (pv 0) pe_int (fun _ _ => rfl)) pa_nil)) (pa_cons (C8.pe_c (ok__law_far T) hr (by decide) rfl (pa_cons (pe_ix ix_tup (pv 0) pe_int (fun _ _ => rfl)) pa_nil)) pa_nil))))), ?_⟩
    refine ⟨_, rfl, p, _, 0, _, rfl, rfl, SqT.of PA.tp, rfl, l, _, rfl, .inl (SqL.of PA.ls), fun u nu => ?_⟩
    have e1 : Ext [] H (upd H u (.lst (tls told))) := Ext.new nu
    have PA1 := PA.ext0 e1
    refine ⟨_, rfl, p, _, 1, _, rfl, rfl, SqT.of PA1.tp, rfl, far, rfl, ok.f, fun v H2 e2 hf => fun x dx nx nd ne => ?_⟩
    have hu : H2 u = some (.lst (tls told)) := e2 u _ (by simp) upd_same
    have e3 : Ext [] H2 (upd (upd H2 dx (.own x)) x (.ins (cRow K) dx [])) := fun b o _ z => by
      rw [upd_ne (ne_of_none z nx), upd_ne (ne_of_none z nd)]; exact z
    refine ⟨x, dx, u, v, told, far, rfl, upd_same, .inl ⟨SqL.of (e3 u _ (by simp) hu), .base (.lst (e3 u _ (by simp) hu))⟩, hf.ext0 e3, ok, fun t H4 nt e4 R4 => ⟨rfl, ?_⟩⟩
    have e12 := e1.trans e2
    exact q x t H4 (e12.trans (Ext.made nx nd e4)) (Ext.free e12 nx) (Ext.free (e12.trans e3) nt) R4
theorem ok__law_at (T : Tx.TX K mg) : C8.Cal P w K mg base 1 "_law_at" (spAt) [] := by
  refine calD (k := 0) T.d__law_at T.g__law_at Tx.sc__law_at (fun _ _ _ _ _ _ us hl => match us, hl with | [_, _], _ => rfl) ?len ?run
  case len => rintro vs H Q E ⟨p, l, told, far, d, rfl, _⟩; rfl
  case run =>
    rintro cdv A' outer s H vs Q E hr ⟨p, l, told, far, d, rfl, PA, ok, hd, q⟩
    refine ⟨_, by exact (pss_one (ps_ret (pe_ifExp (pt_cmpR op_lt (pv 1) (pe_callB call_len_seq (by rfl) T.b_len (by decide +kernel) (pa_cons (pe_ix ix_tup (pv 0) pe_int (fun _ _ => rfl)) pa_nil)) (nomark _)) (pe_ix ix_list (pe_ix ix_tup (pv 0) pe_int (fun _ _ => rfl)) (pv 1) (fun _ _ => rfl)) (pe_join (pe_callTy call_str_int (by rfl) T.b_str (by decide +kernel) (pa_cons (pv 1) pa_nil)) (pe_split (pe_ix ix_tup (pv 0) pe_int (fun _ _ => rfl)) pe_str))))), ?_⟩
    have el : (tls told).length = told.length := List.length_map _
    have l1 : (d : Int).natAbs.log2 < 1920 := by
      rw [Int.natAbs_natCast]
      by_cases h0 : d = 0
      · subst h0; decide
      · exact Nat.lt_trans ((Nat.log2_lt h0).mpr hd) (by decide)
    have dl : (dig d).length ≤ 1900 := dig_le (by decide) hd
    refine ⟨_, rfl, _, rfl, p, _, 0, _, rfl, rfl, SqT.of PA.tp, rfl, l, _, rfl, .inl (SqL.of PA.ls), _, _, rfl, rfl, _, rfl, it2 (fun c => ?_) (fun c => ?_)⟩
    · have c' := of_decide_eq_true c
      have hl : d < told.length := by omega
      have e : told[d]? = some told[d] := List.getElem?_eq_getElem hl
      refine ⟨_, rfl, p, _, 0, _, rfl, rfl, SqT.of PA.tp, rfl, _, rfl, l, _, _, _, rfl, rfl, SqL.of PA.ls, atI_nat (v := V.str (tx told[d])) (by unfold tls; rw [List.getElem?_map, e]; rfl), ?_⟩
      have := q H (Ext.refl H)
      unfold wordAt at this
      rw [e] at this
      exact this
    · have c' := of_decide_eq_false c
      have e : told[d]? = none := List.getElem?_eq_none (by omega)
      have q' : ∀ H', Ext [] H H' → Q (.str (tx (farWord far d))) H' := fun H' x => by
        have := q H' x
        unfold wordAt at this
        rw [e] at this
        exact this
      have fl : (farT far).length ≤ 20 := by
        cases far with
        | word l => exact ok.f.sz
        | pat A B => have := ok.f.sz; show (A ++ 35 :: B).length ≤ 20; rw [List.length_append, List.length_cons]; omega
      refine ⟨_, rfl, d, rfl, l1, ⟨_, rfl⟩, _, rfl, p, _, 1, _, rfl, rfl, SqT.of PA.tp, rfl, ⟨_, rfl⟩, _, _, rfl, rfl, by decide +kernel, by rw [tx_len]; exact sz1000 (by omega), fun u nu => ?_⟩
      rw [dig_eq]
      cases far with
      | word z =>
        have es := split_none (okL_ne ok.f.ok)
        refine ⟨_, u, [tx z], rfl, rfl, .inl (SqL.of (by rw [upd_same]; show some (HO.lst ((Txt.split (tx z) _).map V.str)) = _; rw [es])), ?_, ?_⟩
        · simp [tx_len]; have : z.length ≤ 20 := fl; omega
        · rw [txt_join]; exact q' _ (Ext.new nu)
      | pat A B =>
        have es := split_two (okL_ne ok.f.a) (okL_ne ok.f.b)
        refine ⟨_, u, [tx A, tx B], rfl, rfl, .inl (SqL.of (by rw [upd_same]; show some (HO.lst ((Txt.split (tx (A ++ 35 :: B)) _).map V.str)) = _; rw [es])), ?_, ?_⟩
        · simp [tx_len]; have := ok.f.sz; omega
        · have ej : Txt.join (tx (dig d)) [tx A, tx B] = tx (A ++ dig d ++ B) := by
            rw [txt_join]
            show tx A ++ tx (dig d) ++ tx B = _
            rw [tx_app, tx_app]
          rw [ej]
          exact q' _ (Ext.new nu)
end
end K15
set_option maxHeartbeats 4000000
namespace K15
open PySem PySem.Spec PyProof.Rows L2 Eb
def spLawFault : Sp := fun vs H Q _ => ∃ (p l : Addr) (told : List (List Nat)) (far : Far) (b : Bool), vs = [.ref p, .bl b] ∧ PlanAt H p l told far ∧ RowOk told far ∧ ∀ v H', Ext [] H H' → Dat [] H' (firstOf (if b then fF (wd told far) else fB (wd told far)) 12 .none) v → Q v H'
theorem tls_app (a b : List (List Nat)) : tls (a ++ b) = tls a ++ tls b := List.map_append
section
variable {P : Program} {w : World} {K : PySem.W.Frag} {mg : Str → Option Value} {base : Heap}
theorem ok__law_plan (T : Tx.TX K mg) : C8.Cal P w K mg base 5 "_law_plan" (spPlan) [] := by
  refine calD (k := 4) T.d__law_plan T.g__law_plan Tx.sc__law_plan (fun _ _ _ _ _ _ us hl => match us, hl with | [_], _ => rfl) ?len ?run
  case len => rintro vs H Q E ⟨r, rfl, _⟩; rfl
  case run =>
    rintro cdv A' outer s H vs Q E hr ⟨r, rfl, hR, q⟩
    refine ⟨_, by exact (pss_cons (ps_setLc (i := 1) (own := [("_law_turn", 2)]) (g := gName 2) (tt := tYes) rfl Tx.sc__law_plan.nd rfl rfl (sw_true rfl rfl rfl (by decide +kernel)) (pi_range1 (by rfl) T.b_range (pa_cons (C8.pe_c (ok__law_choice T) hr (by decide) rfl (pa_cons (pv 0) (pa_cons (pe_lst (pa_cons pe_int (pa_cons pe_int (pa_cons pe_int (pa_cons pe_int (pa_cons pe_int (pa_cons pe_int (pa_cons pe_int pa_nil)))))))) pa_nil))) pa_nil)) (blkOk_by (own := [("_law_turn", 2)]) (N := Tx.N__law_plan) (sc := defScope Tx.s__law_plan) (by decide +kernel)) (fun _ _ _ _ _ => (pg_name (i := 2) Tx.sc__law_plan.nd rfl (Or.inl rfl))) (fun _ _ _ _ _ => pts_nil) (fun _ _ _ _ _ => (C8.pe_c (ok__law_any_word T) hr (by decide) rfl (pa_cons (pv 0) pa_nil)))) (pss_one (ps_ret (pe_tup (pa_cons (pv 1) (pa_cons (pe_j (pe_ifExp (pt_cmpR op_eq (C8.pe_c (ok__law_draw T) hr (by decide) rfl (pa_cons (pv 0) (pa_cons pe_int pa_nil))) pe_int (nomark _)) (C8.pe_c (ok__law_pattern_text T) hr (by decide) rfl (pa_cons (pv 0) pa_nil)) (C8.pe_c (ok__law_any_word T) hr (by decide) rfl (pa_cons (pv 0) pa_nil)))) pa_nil)))))), ?_⟩
    refine ⟨_, rfl, (by show 7 ≤ sizeLine; decide), fun p np => .inl ⟨r, p, _, rfl, hR.new np, RngAt.ne hR np, upd_same, by decide, by decide, fun v H1 hv e1 R1 => ?_⟩⟩
    have : ∃ n : Nat, n ≤ 8 ∧ v = .int n := by
      simp only [List.mem_cons, List.not_mem_nil, or_false] at hv
      rcases hv with rfl | rfl | rfl | rfl | rfl | rfl | rfl
      · exact ⟨0, by decide, rfl⟩
      · exact ⟨0, by decide, rfl⟩
      · exact ⟨1, by decide, rfl⟩
      · exact ⟨2, by decide, rfl⟩
      · exact ⟨3, by decide, rfl⟩
      · exact ⟨5, by decide, rfl⟩
      · exact ⟨8, by decide, rfl⟩
    obtain ⟨n, hn, rfl⟩ := this
    have e01 : Ext [r] H H1 := (Ext.new np).trans e1
    refine ⟨_, rfl, by omega, by omega, fun D hD => ?_⟩
    have nD : D ≠ r := RngAt.ne R1 hD
    have fD : H D = none := e01.back (by simpa using nD) hD
    refine lc_it walk_range (fun i H' => ∃ told : List (List Nat), told.length = i ∧ (∀ l ∈ told, WOk l) ∧ H' D = some (.lst (tls told)) ∧ Ext [r] H H' ∧ RngAt H' r) ⟨[], rfl, (fun _ h => absurd h List.not_mem_nil), upd_same, Ext.mut e01 fD, R1.new hD⟩ (fun _ _ _ _ => trivial) ?_ ?_
    · rintro i x H2' H2 hi ⟨told, l1, l2, g1, g2, g3⟩ ⟨rfl, rfl⟩
      refine ⟨rfl, _, rfl, r, rfl, g3, fun l H3 wl e3 R3 => ⟨_, e3 D _ (by simpa using nD) g1, ?_, told ++ [l], by simp [l1], fun z hz => ?_, ?_, Ext.mut (g2.trans e3) fD, ?_⟩⟩
      · unfold tls
        rw [List.length_map, l1]
        exact Nat.lt_of_lt_of_le (show i < 1000 by omega) (by decide)
      · rcases List.mem_append.mp hz with hz | hz
        · exact l2 z hz
        · cases List.mem_singleton.mp hz; exact wl
      · rw [upd_same, tls_app]; rfl
      · obtain ⟨a, b, h1, h2⟩ := R3
        exact ⟨a, b, by rw [upd_ne nD.symm]; exact h1, h2⟩
    · rintro H2 ⟨told, l1, l2, g1, g2, g3⟩
      refine ⟨_, rfl, ?_⟩
      refine ⟨fun v H' => ∃ far, FarOk far ∧ v = .str (tx (farT far)) ∧ Ext [r] H2 H' ∧ RngAt H' r, ⟨_, rfl, r, 2, rfl, g3, by decide, by decide, fun d H3 d0 d1 e3 R3 => ⟨rfl, _, rfl, it2 (fun c => ?_) (fun c => ?_)⟩⟩, ?_⟩
      · exact ⟨_, rfl, r, rfl, R3, fun A B H4 ok e4 R4 => ⟨.pat A B, ok, rfl, e3.trans e4, R4⟩⟩
      · exact ⟨_, rfl, r, rfl, R3, fun l H4 ok e4 R4 => ⟨.word l, ok, rfl, e3.trans e4, R4⟩⟩
      · rintro v H3 ⟨far, ok, rfl, e3, R3⟩
        refine ⟨(by show 2 ≤ sizeLine; decide), fun t ht => ?_⟩
        have h3D := e3 D _ (by simpa using nD) g1
        have nDt : D ≠ t := ne_of_none h3D ht
        have e03 := g2.trans e3
        have ntr : t ≠ r := RngAt.ne R3 ht
        refine q t D told far _ ⟨by omega, l2, ok⟩ (e03.trans (Ext.new ht)) (R3.new ht) (e03.back (by simpa using ntr) ht) fD ⟨upd_same, by rw [upd_ne nDt]; exact h3D⟩
theorem ok__law_fault (T : Tx.TX K mg) : C8.Cal P w K mg base 2 "_law_fault" (spLawFault) [] := by
  refine calD (k := 1) T.d__law_fault T.g__law_fault Tx.sc__law_fault (fun _ _ _ _ _ _ us hl => match us, hl with | [_, _], _ => rfl) ?len ?run
  case len => rintro vs H Q E ⟨p, l, told, far, b, rfl, _⟩; rfl
  case run =>
    rintro cdv A' outer s H vs Q E hr ⟨p, l, told, far, b, rfl, PA, ok, q⟩
    refine ⟨_, by exact (pss_cons (ps_for PassesOwn.never rfl (pi_range1 (by rfl) T.b_range (pa_cons pe_int pa_nil)) (pg_name (i := 2) Tx.sc__law_fault.nd rfl (Or.inl rfl)) (pss_cons (ps_set (i := 3) Tx.sc__law_fault.nd rfl (Or.inl rfl) (pe_op op_sub (pe_callB call_len_str (by rfl) T.b_len (by decide +kernel) (pa_cons (C8.pe_c (ok__law_at T) hr (by decide) rfl (pa_cons (pv 0) (pa_cons (pe_op op_add (pv 2) pe_int) pa_nil))) pa_nil)) (pe_callB call_len_str (by rfl) T.b_len (by decide +kernel) (pa_cons (C8.pe_c (ok__law_at T) hr (by decide) rfl (pa_cons (pv 0) (pa_cons (pv 2) pa_nil))) pa_nil)))) (pss_cons (ps_if (PW.pt (pw_and (pt_val (pv 1)) (pw_and1 (pt_cmpR op_notIn_seq (pv 3) (pe_tup (pa_cons pe_int (pa_cons pe_int pa_nil))) (by rfl))))) (pss_one (ps_ret (pe_tup (pa_cons (pe_j (pe_ifExp (pt_cmpR op_lt (pv 3) pe_int (nomark _)) pe_str pe_str)) (pa_cons (pv 2) pa_nil))))) pss_nil) (pss_one (ps_if (PW.pt (pw_and (pt_not (pt_val (pv 1))) (pw_and1 (pt_cmpR op_notIn_seq (pv 3) (pe_tup (pa_cons pe_int (pa_cons (pe_un un_neg pe_int) pa_nil))) (by rfl))))) (pss_one (ps_ret (pe_tup (pa_cons (pe_j (pe_ifExp (pt_cmpR op_gt (pv 3) pe_int (nomark _)) pe_str pe_str)) (pa_cons (pv 2) pa_nil))))) pss_nil))))) (pss_one (ps_ret pe_non))), ?_⟩
    refine ⟨_, rfl, by decide, by decide, for_it walk_range (fun i σ H' => (∃ o1 o2, σ = [some (.ref p), some (.bl b), o1, o2]) ∧ Ext [] H H' ∧ ∀ j, j < i → (if b then fF (wd told far) else fB (wd told far)) j = none) ⟨⟨_, _, rfl⟩, Ext.refl H, fun j h => by omega⟩ (fun _ _ _ _ _ => trivial) ?_ ?_⟩
    · rintro i x σ H2' H2 hi ⟨⟨o1, o2, rfl⟩, e2, none_⟩ ⟨rfl, rfl⟩
      have hi' : i < 12 := hi
      have sm : ∀ d : Nat, d < 100 → d < 2 ^ 1900 := fun d h => Nat.lt_of_lt_of_le (show d < 2 ^ 10 by omega) (Nat.pow_le_pow_right (by decide) (by decide))
      refine ⟨_, rfl, _, rfl, _, _, rfl, rfl, p, l, told, far, i + 1, (by show [V.ref p, V.int (0 + (i : Int) + 1)] = _; rw [Int.zero_add]; rfl), PA.ext0 e2, ok, sm _ (by omega), fun H3 e3 => ?_⟩
      refine ⟨_, rfl, by rw [tx_len]; exact Nat.le_trans (wordAt_len ok (sm _ (by omega))) (by decide), _, rfl, _, rfl, p, l, told, far, i, (by show [V.ref p, V.int (0 + (i : Int))] = _; rw [Int.zero_add]), PA.ext0 (e2.trans e3), ok, sm _ (by omega), fun H4 e4 => ?_⟩
      refine ⟨_, rfl, by rw [tx_len]; exact Nat.le_trans (wordAt_len ok (sm _ (by omega))) (by decide), _, _, rfl, rfl, ?_⟩
      rw [tx_len, tx_len]
      have e24 : Ext [] H H4 := (e2.trans e3).trans e4
      have es : ((wordAt told far (i + 1)).length : Int) - ((wordAt told far i).length : Int) = wd told far (i + 1) - wd told far i := rfl
      dsimp only
      rw [es]
      have in2 : ∀ x a c : Int, (!inV (.int x) [.int a, .int c]) = decide (x ≠ a ∧ x ≠ c) := fun x a c => by
        simp only [inV, eqV, List.any_cons, List.any_nil, Bool.or_false]
        rw [Bool.eq_iff_iff]
        simp only [Bool.not_eq_true', Bool.or_eq_false_iff, beq_eq_false_iff_ne, decide_eq_true_eq, ne_eq]
        constructor
        · rintro ⟨h1, h2⟩; exact ⟨fun z => h1 z.symm, fun z => h2 z.symm⟩
        · rintro ⟨h1, h2⟩; exact ⟨fun z => h1 z.symm, fun z => h2 z.symm⟩
      have go : (if b then fF (wd told far) else fB (wd told far)) i = none → ∀ H5, Ext [] H H5 → (∃ o1 o2, [some (V.ref p), some (.bl b), some (.int (0 + (i : Int))), some (.int (wd told far (i + 1) - wd told far i))] = [some (.ref p), some (.bl b), o1, o2]) ∧ Ext [] H H5 ∧ ∀ j, j < i + 1 → (if b then fF (wd told far) else fB (wd told far)) j = none := fun hn H5 e5 =>
        ⟨⟨_, _, rfl⟩, e5, fun j hj => by
          by_cases h : j = i
          · rw [h]; exact hn
          · exact none_ j (by omega)⟩
      have ret : ∀ k : Str, (if b then fF (wd told far) else fB (wd told far)) i = some (tFault k i) → ∀ H5 t', Ext [] H H5 → H5 t' = none → Q (.ref t') (upd H5 t' (.tup [.str k, .int (0 + (i : Int))])) := fun k hk H5 t' e5 nt => by
        rw [Int.zero_add]
        refine q _ _ (e5.trans (Ext.new nt)) ?_
        rw [firstOf_some (f := if b then fF (wd told far) else fB (wd told far)) hi' none_ hk]
        exact dat_fault nt
      generalize hst : wd told far (i + 1) - wd told far i = st at go ⊢
      cases b with
      | true =>
        refine ⟨_, rfl, _, rfl, itT rfl ⟨_, rfl, (by show 2 ≤ sizeLine; decide), fun tp ntp => ⟨tp, _, rfl, .inr (SqT.of upd_same), rfl, rfl, _, rfl, ?_⟩⟩⟩
        rw [if_pos rfl, in2]
        refine it2 (fun c => ?_) (fun c => ?_)
        · have c' := of_decide_eq_true c
          refine ⟨fun v H' => v = .str (if st < 0 then "shrinks" else "jumps") ∧ H' = upd H4 tp (.tup [.int 0, .int 1]), ⟨_, rfl, _, _, rfl, rfl, _, rfl, it2 (fun c2 => ?_) (fun c2 => ?_)⟩, ?_⟩
          · exact ⟨by rw [if_pos (of_decide_eq_true c2)], rfl⟩
          · exact ⟨by rw [if_neg (of_decide_eq_false c2)], rfl⟩
          · rintro v H5 ⟨rfl, rfl⟩
            refine ⟨_, rfl, (by show 2 ≤ sizeLine; decide), fun t' nt => ret _ ?_ _ t' (e24.trans (Ext.new ntp)) nt⟩
            show fF (wd told far) i = _
            unfold fF
            rw [hst]
            by_cases h : st < 0
            · rw [if_pos h, if_pos h]
            · rw [if_neg h, if_neg h, if_pos (by omega)]
        · have c' := of_decide_eq_false c
          refine ⟨_, rfl, _, rfl, itF rfl (itF rfl (go ?_ _ (e24.trans (Ext.new ntp))))⟩
          show fF (wd told far) i = none
          unfold fF
          rw [hst, if_neg (by omega), if_neg (by omega)]
      | false =>
        refine ⟨_, rfl, _, rfl, itF rfl (itF rfl ?_)⟩
        refine ⟨_, rfl, _, rfl, itT rfl ⟨_, rfl, _, rfl, (by show 2 ≤ sizeLine; decide), fun tp ntp => ⟨tp, _, rfl, .inr (SqT.of upd_same), rfl, rfl, _, rfl, ?_⟩⟩⟩
        rw [if_pos rfl, in2]
        refine it2 (fun c => ?_) (fun c => ?_)
        · have c' := of_decide_eq_true c
          refine ⟨fun v H' => v = .str (if 0 < st then "grows" else "jumps") ∧ H' = upd H4 tp (.tup [.int 0, .int (-1)]), ⟨_, rfl, _, _, rfl, rfl, _, rfl, it2 (fun c2 => ?_) (fun c2 => ?_)⟩, ?_⟩
          · exact ⟨by rw [if_pos (of_decide_eq_true c2)], rfl⟩
          · exact ⟨by rw [if_neg (of_decide_eq_false c2)], rfl⟩
          · rintro v H5 ⟨rfl, rfl⟩
            refine ⟨_, rfl, (by show 2 ≤ sizeLine; decide), fun t' nt => ret _ ?_ _ t' (e24.trans (Ext.new ntp)) nt⟩
            show fB (wd told far) i = _
            unfold fB
            by_cases h : 0 < st
            · rw [if_pos (show wd told far i - wd told far (i + 1) < 0 by omega), if_pos h]
            · rw [if_neg (show ¬ wd told far i - wd told far (i + 1) < 0 by omega), if_neg h, if_pos (by omega)]
        · have c' := of_decide_eq_false c
          refine go ?_ _ (e24.trans (Ext.new ntp))
          show fB (wd told far) i = none
          unfold fB
          rw [if_neg (by omega), if_neg (by omega)]
    · rintro σ H2 ⟨⟨o1, o2, rfl⟩, e2, none_⟩
      refine q .non H2 e2 ?_
      rw [firstOf_none (f := if b then fF (wd told far) else fB (wd told far)) (n := 12) (fun j hj => none_ j hj)]
      exact dat_none.mpr rfl
end
end K15
set_option maxHeartbeats 4000000
namespace K15
open PySem PySem.Spec PyProof.Rows L2 Eb
/-! ## the two looks at a row agree -/
theorem firstOf_ext {f : Nat → Option PyData} {n m : Nat} {z : PyData} (h : n ≤ m) (hn : ∀ j, n ≤ j → j < m → f j = none) : firstOf f m z = firstOf f n z := by
  by_cases hx : ∃ i, i < n ∧ f i ≠ none
  · have : ∃ i, (i < n ∧ f i ≠ none) ∧ ∀ j, j < i → f j = none := by
      obtain ⟨i, hi⟩ := hx
      induction i using Nat.strongRecOn with
      | _ i ih =>
        by_cases hj : ∃ j, j < i ∧ f j ≠ none
        · obtain ⟨j, h1, h2⟩ := hj
          exact ih j h1 ⟨by omega, h2⟩
        · exact ⟨i, hi, fun j hj' => Classical.byContradiction fun c => hj ⟨j, hj', c⟩⟩
    obtain ⟨i, ⟨h1, h2⟩, h3⟩ := this
    cases e : f i with
    | none => exact absurd e h2
    | some x => rw [firstOf_some (by omega) h3 e, firstOf_some h1 h3 e]
  · have hn' : ∀ j, j < n → f j = none := fun j hj => Classical.byContradiction fun c => hx ⟨j, hj, c⟩
    rw [firstOf_none hn', firstOf_none fun j hj => if h : j < n then hn' j h else hn j (by omega) hj]
theorem dig2 : ∀ i : Nat, i < 13 → (dig i).length = if i < 10 then 1 else 2 := by
  intro i hi
  have h : ∀ i : Fin 13, (dig i.val).length = if i.val < 10 then 1 else 2 := by decide +kernel
  exact h ⟨i, hi⟩
theorem wd_far {told : List (List Nat)} {far : Far} {d : Nat} (h : told.length ≤ d) (hd : d < 13) : wd told far d = match far with | .word l => (l.length : Int) | .pat A B => (A.length + B.length : Nat) + (if d < 10 then 1 else 2) := by
  unfold wd
  rw [wordAt_out h]
  cases far with
  | word l => rfl
  | pat A B =>
    show (((A ++ dig d ++ B).length : Nat) : Int) = _
    rw [List.length_append, List.length_append, dig2 d hd]
    split <;> (dsimp only; omega)
theorem fwd_law {told : List (List Nat)} {far : Far} (ok : RowOk told far) : firstOf (fF (wd told far)) 12 .none = fwd told far := by
  unfold fwd
  refine firstOf_ext (by have := ok.n; omega) fun j h1 h2 => ?_
  unfold fF
  rw [wd_far (d := j) h1 (by omega), wd_far (d := j + 1) (by omega) (by omega)]
  cases far with
  | word l => rw [if_neg (by dsimp only; omega), if_neg (by dsimp only; omega)]
  | pat A B =>
    dsimp only
    rw [if_neg (by split <;> split <;> omega), if_neg (by split <;> split <;> omega)]
theorem bwd_law {told : List (List Nat)} {far : Far} (ok : RowOk told far) : firstOf (fB (wd told far)) 12 .none = bwd told far := by
  have n8 := ok.n
  unfold bwd
  cases far with
  | word l =>
    refine firstOf_ext (by omega) fun j h1 h2 => ?_
    unfold fB
    rw [wd_far (d := j) h1 (by omega), wd_far (d := j + 1) (by omega) (by omega)]
    rw [if_neg (by dsimp only; omega), if_neg (by dsimp only; omega)]
  | pat A B =>
    show _ = firstOf _ _ (tFault "grows" 9)
    have h9 : fB (wd told (.pat A B)) 9 = some (tFault "grows" 9) := by
      unfold fB
      rw [wd_far (d := 9) (by omega) (by omega), wd_far (d := 9 + 1) (by omega) (by omega)]
      dsimp only
      rw [if_pos (by omega)]
    have hm : ∀ j, told.length ≤ j → j < 9 → fB (wd told (.pat A B)) j = none := fun j h1 h2 => by
      unfold fB
      rw [wd_far (d := j) h1 (by omega), wd_far (d := j + 1) (by omega) (by omega)]
      dsimp only
      rw [if_pos (show j < 10 by omega), if_pos (show j + 1 < 10 by omega), if_neg (by omega), if_neg (by omega)]
    by_cases hx : ∃ i, i < told.length ∧ fB (wd told (.pat A B)) i ≠ none
    · obtain ⟨i, hi⟩ := hx
      have : ∃ i, (i < told.length ∧ fB (wd told (.pat A B)) i ≠ none) ∧ ∀ j, j < i → fB (wd told (.pat A B)) j = none := by
        induction i using Nat.strongRecOn with
        | _ i ih =>
          by_cases hj : ∃ j, j < i ∧ fB (wd told (.pat A B)) j ≠ none
          · obtain ⟨j, h1, h2⟩ := hj
            exact ih j h1 ⟨by omega, h2⟩
          · exact ⟨i, hi, fun j hj' => Classical.byContradiction fun c => hj ⟨j, hj', c⟩⟩
      obtain ⟨i, ⟨h1, h2⟩, h3⟩ := this
      cases e : fB (wd told (.pat A B)) i with
      | none => exact absurd e h2
      | some x => rw [firstOf_some (by omega) h3 e, firstOf_some h1 h3 e]
    · have hn' : ∀ j, j < told.length → fB (wd told (.pat A B)) j = none := fun j hj => Classical.byContradiction fun c => hx ⟨j, hj, c⟩
      rw [firstOf_none hn', firstOf_some (by omega) (fun j hj => if h : j < told.length then hn' j h else hm j (by omega) hj) h9]
/-- a fault, as repr wants it -/
def Flt1 (d : PyData) : Prop := d = .none ∨ ∃ k i, d = tFault k i ∧ k.length ≤ 10 ∧ i < 100 ∧ (∀ c ∈ k.cps.toList, c < 128)
def spIsRight (K : PySem.W.Frag) : Sp := fun vs H Q _ => ∃ (a t p l : Addr) (told : List (List Nat)) (far : Far), vs = [.ref a, .ref p] ∧ RowAt K H a t told far ∧ PlanAt H p l told far ∧ RowOk told far ∧ ∀ H', Ext [] H H' → Q (.bl true) H'
section
variable {P : Program} {w : World} {K : PySem.W.Frag} {mg : Str → Option Value} {base : Heap}
theorem sh_flt {a : PyData} (ha : Flt1 a) : Sh a 300 2 := by
  rcases ha with rfl | ⟨k, i, rfl, h1, h2, h3⟩
  · exact sh_none.le (by decide) (by decide)
  · exact (sh_tup (sha_cons (sh_str k h3) (sha_cons (sh_int i (k := 7) (by decide) (by decide) (by omega)) sha_nil))).le (by simp only [List.length_cons, List.length_nil]; omega) (by decide)
theorem showy2 {a b : PyData} (ha : Flt1 a) (hb : Flt1 b) : Showy (.list [a, b]) := (sh_list (sha_cons (sh_flt ha) (sha_cons (sh_flt hb) sha_nil))).showy (by show 300 + (300 + 0) + 2 * 2 + 3 ≤ 1000000; decide) (by decide)
theorem flt_fF {wf : Nat → Int} {n : Nat} (hn : n ≤ 12) : Flt1 (firstOf (fF wf) n .none) := by
  unfold firstOf
  cases e : (List.range n).findSome? (fF wf) with
  | none => exact .inl rfl
  | some x =>
    obtain ⟨j, hm, hj⟩ := List.exists_of_findSome?_eq_some e
    have := List.mem_range.mp hm
    unfold fF at hj
    split at hj
    · cases hj; exact .inr ⟨_, j, rfl, by decide +kernel, by omega, by decide +kernel⟩
    · split at hj
      · cases hj; exact .inr ⟨_, j, rfl, by decide +kernel, by omega, by decide +kernel⟩
      · cases hj
theorem flt_fB {wf : Nat → Int} {n : Nat} (hn : n ≤ 12) : Flt1 (firstOf (fB wf) n .none) := by
  unfold firstOf
  cases e : (List.range n).findSome? (fB wf) with
  | none => exact .inl rfl
  | some x =>
    obtain ⟨j, hm, hj⟩ := List.exists_of_findSome?_eq_some e
    have := List.mem_range.mp hm
    unfold fB at hj
    split at hj
    · cases hj; exact .inr ⟨_, j, rfl, by decide +kernel, by omega, by decide +kernel⟩
    · split at hj
      · cases hj; exact .inr ⟨_, j, rfl, by decide +kernel, by omega, by decide +kernel⟩
      · cases hj
theorem flt_fwd {told : List (List Nat)} {far : Far} (ok : RowOk told far) : Flt1 (fwd told far) := fwd_law ok ▸ flt_fF (by decide)
theorem flt_bwd {told : List (List Nat)} {far : Far} (ok : RowOk told far) : Flt1 (bwd told far) := bwd_law ok ▸ flt_fB (by decide)
theorem dat_two {R : List Addr} {H : Hp} {p : Addr} {u v : V} {a b : PyData} (hp : H p = none) (ha : Dat R H a u) (hb : Dat R H b v) (nR : p ∉ R) : Dat R (upd H p (.lst [u, v])) (.list [a, b]) (.ref p) :=
  dat_list.mpr ⟨p, _, rfl, nR, upd_same, dats_cons.mpr ⟨_, _, rfl, ha.ext (Ext.new hp), dats_cons.mpr ⟨_, _, rfl, hb.ext (Ext.new hp), dats_nil.mpr rfl⟩⟩⟩
theorem ok__law_is_right (T : Tx.TX K mg) : CalG P w K mg base 8 "_law_is_right" (spIsRight K) := by
  refine calG (k := 7) T.d__law_is_right T.g__law_is_right Tx.sc__law_is_right (fun _ _ _ _ _ _ us hl => match us, hl with | [_, _], _ => rfl) ?len ?run
  case len => rintro vs H Q E ⟨a, t, p, l, told, far, rfl, _⟩; rfl
  case run =>
    rintro cdv A' outer s H vs Q E hgd hr ⟨a, t, p, l, told, far, rfl, R, PA, ok, q⟩
    refine ⟨_, by exact (pss_cons (ps_set (i := 2) Tx.sc__law_is_right.nd rfl (Or.inl rfl) (pe_lst (pa_cons (C8.pe_c (ok__law_fault T) hr (by decide) rfl (pa_cons (pv 1) (pa_cons pe_bl pa_nil))) (pa_cons (C8.pe_c (ok__law_fault T) hr (by decide) rfl (pa_cons (pv 1) (pa_cons pe_bl pa_nil))) pa_nil)))) (pss_cons (ps_if (pt_cmpR op_ne (pe_callB (call_reprD hgd hr) (by rfl) T.b_repr (by decide +kernel) (pa_cons (pe_lst (pa_cons (C8.pe_mt0 (ok_Row_forward_fault T) hr (by decide) (pv 0)) (pa_cons (C8.pe_mt0 (ok_Row_backward_fault T) hr (by decide) (pv 0)) pa_nil))) pa_nil)) (pe_callB (call_reprD hgd hr) (by rfl) T.b_repr (by decide +kernel) (pa_cons (pv 2) pa_nil)) (nomark _)) (pss_one (ps_ret pe_bl)) pss_nil) (pss_one (ps_ret (pe_cmpR op_eq (pe_callB (call_reprD hgd hr) (by rfl) T.b_repr (by decide +kernel) (pa_cons (pe_lst (pa_cons (C8.pe_mt0 (ok_Row_forward_fault T) hr (by decide) (C8.pe_mt0 (ok_Row_copy T) hr (by decide) (pv 0))) (pa_cons (C8.pe_mt0 (ok_Row_backward_fault T) hr (by decide) (C8.pe_mt0 (ok_Row_copy T) hr (by decide) (pv 0))) pa_nil))) pa_nil)) (pe_callB (call_reprD hgd hr) (by rfl) T.b_repr (by decide +kernel) (pa_cons (pv 2) pa_nil)) (nomark _)))))), ?_⟩
    refine ⟨_, rfl, p, l, told, far, true, rfl, PA, ok, fun v1 H1 e1 d1 => ?_⟩
    refine ⟨_, rfl, p, l, told, far, false, rfl, PA.ext0 e1, ok, fun v2 H2 e2 d2 => ⟨(by show 2 ≤ sizeLine; decide), fun D hD => ?_⟩⟩
    rw [if_pos rfl, fwd_law ok] at d1
    rw [if_neg (by decide), bwd_law ok] at d2
    have dD := dat_two (p := D) hD (d1.ext e2) d2 (by simp)
    have e3 : Ext [] H (upd H2 D (.lst [v1, v2])) := (e1.trans e2).trans (Ext.new hD)
    generalize upd H2 D (.lst [v1, v2]) = H3 at dD e3 ⊢
    have sw := showy2 (flt_fwd ok) (flt_bwd ok)
    have R3 := R.ext0 e3
    obtain ⟨⟨dx, v, ha, hf⟩, ht⟩ := id R3
    refine ⟨_, rfl, a, dx, _, rfl, ha, rowF_n5 t v, a, t, told, far, rfl, R3, ok, fun u1 H4 e4 c1 => ?_⟩
    obtain ⟨⟨dx4, v4, ha4, hf4⟩, ht4⟩ := R3.ext0 e4
    refine ⟨_, rfl, a, dx4, _, rfl, ha4, rowF_n6 t v4, a, t, told, far, rfl, R3.ext0 e4, ok, fun u2 H5 e5 c2 => ⟨(by show 2 ≤ sizeLine; decide), fun F hF => ?_⟩⟩
    have dF := dat_two (p := F) hF (c1.ext e5) c2 (by simp)
    have e6 : Ext [] H3 (upd H5 F (.lst [u1, u2])) := (e4.trans e5).trans (Ext.new hF)
    generalize upd H5 F (.lst [u1, u2]) = H6 at dF e6 ⊢
    refine ⟨F, [], _, rfl, dF, sw, _, rfl, D, [], _, rfl, dD.ext e6, sw, rfl, _, rfl, itF (by simp) ?_⟩
    -- the copies
    have R6 := R3.ext0 e6
    obtain ⟨⟨dx6, v6, ha6, hf6⟩, ht6⟩ := id R6
    refine ⟨_, rfl, a, dx6, _, rfl, ha6, rowF_n7 t v6, a, t, told, far, rfl, R6, ok, fun b u H7 e7 nb nu R7 => ?_⟩
    obtain ⟨⟨dx7, v7, ha7, hf7⟩, ht7⟩ := id R7
    refine ⟨b, dx7, _, rfl, ha7, rowF_n5 u v7, b, u, told, far, rfl, R7, ok, fun w1 H8 e8 f1 => ?_⟩
    have R8 := R6.ext0 (e7.trans e8)
    obtain ⟨⟨dx8, v8, ha8, hf8⟩, ht8⟩ := id R8
    refine ⟨_, rfl, a, dx8, _, rfl, ha8, rowF_n7 t v8, a, t, told, far, rfl, R8, ok, fun b' u' H9 e9 nb' nu' R9 => ?_⟩
    obtain ⟨⟨dx9, v9, ha9, hf9⟩, ht9⟩ := id R9
    refine ⟨b', dx9, _, rfl, ha9, rowF_n6 u' v9, b', u', told, far, rfl, R9, ok, fun w2 H10 e10 f2 => ⟨(by show 2 ≤ sizeLine; decide), fun G hG => ?_⟩⟩
    have dG := dat_two (p := G) hG (f1.ext (e9.trans e10)) f2 (by simp)
    have e11 : Ext [] H6 (upd H10 G (.lst [w1, w2])) := (((e7.trans e8).trans e9).trans e10).trans (Ext.new hG)
    generalize upd H10 G (.lst [w1, w2]) = H11 at dG e11 ⊢
    refine ⟨G, [], _, rfl, dG, sw, _, rfl, D, [], _, rfl, dD.ext (e6.trans e11), sw, rfl, ?_⟩
    rw [decide_eq_true rfl]
    exact q H11 ((e3.trans e6).trans e11)
end
end K15
set_option maxHeartbeats 4000000
namespace K15
open PySem PySem.Spec PyProof.Rows L2 Eb
/-- a change of the row at a and of its plan -/
def spChanged (K : PySem.W.Frag) : Sp := fun vs H Q _ => ∃ (r a t p l : Addr) (told : List (List Nat)) (far : Far), vs = [.ref r, .ref a, .ref p] ∧ RngAt H r ∧ RowAt K H a t told far ∧ PlanAt H p l told far ∧ l ≠ t ∧ RowOk told far ∧
  ∀ (p' l' : Addr) (told' : List (List Nat)) (H' : Hp), RowOk told' far → Ext [r, t] H H' → RngAt H' r → RowAt K H' a t told' far → PlanAt H' p' l' told' far → l' ≠ t → Q (.ref p') H'
theorem cutV_to (xs : List V) (k : Nat) : cutV xs none (some (k : Int)) = xs.take k := by
  unfold cutV
  rw [HT.sIx_none, HT.sIx_nat, List.drop_zero, Nat.sub_zero]
  by_cases h : k ≤ xs.length
  · rw [Nat.min_eq_left h]
  · rw [Nat.min_eq_right (by omega), List.take_of_length_le (Nat.le_refl _), List.take_of_length_le (by omega)]
theorem cutV_from (xs : List V) (k : Nat) : cutV xs (some (k : Int)) none = xs.drop k := by
  unfold cutV
  rw [HT.sIx_none, HT.sIx_nat]
  by_cases h : k ≤ xs.length
  · rw [Nat.min_eq_left h, List.take_of_length_le (by rw [List.length_drop]; exact Nat.le_refl _)]
  · rw [Nat.min_eq_right (by omega), List.drop_eq_nil_of_le (Nat.le_refl _), List.drop_eq_nil_of_le (by omega), List.take_nil]
theorem set_cut {α : Type} (xs : List α) (d : Nat) (x : α) (h : d < xs.length) : xs.take d ++ [x] ++ xs.drop (d + 1) = xs.set d x := by
  rw [List.set_eq_take_append_cons_drop, if_pos h, List.append_assoc]; rfl
theorem RngAt.ext {H H' : Hp} {r : Addr} {R : List Addr} (h : RngAt H r) (e : Ext R H H') (n : r ∉ R) : RngAt H' r := by
  obtain ⟨a, b, h1, h2⟩ := h
  exact ⟨a, b, e r _ n h1, h2⟩
theorem pow1900 {n : Nat} (h : n < 1000) : n < 2 ^ 1900 := Nat.lt_of_lt_of_le (show n < 2 ^ 10 by omega) (Nat.pow_le_pow_right (by decide) (by decide))
section
variable {P : Program} {w : World} {K : PySem.W.Frag} {mg : Str → Option Value} {base : Heap}
theorem ok__law_changed (T : Tx.TX K mg) : C8.Cal P w K mg base 6 "_law_changed" (spChanged K) [] := by
  refine calD (k := 5) T.d__law_changed T.g__law_changed Tx.sc__law_changed (fun _ _ _ _ _ _ us hl => match us, hl with | [_, _, _], _ => rfl) ?len ?run
  case len => rintro vs H Q E ⟨r, a, t, p, l, told, far, rfl, _⟩; rfl
  case run =>
    rintro cdv A' outer s H vs Q E hr ⟨r, a, t, p, l, told, far, rfl, hR, R, PA, nlt, ok, q⟩
    refine ⟨_, by exact (pss_cons (ps_set (i := 3) Tx.sc__law_changed.nd rfl (Or.inl rfl) (C8.pe_c (ok__law_draw T) hr (by decide) rfl (pa_cons (pv 0) (pa_cons pe_int pa_nil)))) (pss_cons (ps_set (i := 4) Tx.sc__law_changed.nd rfl (Or.inl rfl) (pe_op op_add (pe_callB call_len_str (by rfl) T.b_len (by decide +kernel) (pa_cons (C8.pe_c (ok__law_at T) hr (by decide) rfl (pa_cons (pv 2) (pa_cons (pv 3) pa_nil))) pa_nil)) (C8.pe_c (ok__law_choice T) hr (by decide) rfl (pa_cons (pv 0) (pa_cons (pe_lst (pa_cons pe_int (pa_cons pe_int (pa_cons (pe_un un_neg pe_int) (pa_cons pe_int (pa_cons (pe_un un_neg pe_int) (pa_cons pe_int pa_nil))))))) pa_nil))))) (pss_cons (ps_set (i := 5) Tx.sc__law_changed.nd rfl (Or.inl rfl) (C8.pe_c (ok__law_word T) hr (by decide) rfl (pa_cons (pv 0) (pa_cons (pe_callB (call_max2 rfl) (by rfl) T.b_max (by decide +kernel) (pa_cons pe_int (pa_cons (pe_callB (call_min2 rfl) (by rfl) T.b_min (by decide +kernel) (pa_cons (pe_callTy call_int1 (by rfl) T.b_int (by decide +kernel) (pa_cons (pv 4) pa_nil)) (pa_cons pe_int pa_nil))) pa_nil))) pa_nil)))) (pss_cons (ps_set (i := 6) Tx.sc__law_changed.nd rfl (Or.inl rfl) (pe_op op_cat (pe_callTy call_list_of (by rfl) T.b_list (by decide +kernel) (pa_cons (pe_ix ix_tup (pv 2) pe_int (fun _ _ => rfl)) pa_nil)) (pe_lc (own := [("_law_distance", 7)]) (g := gName 7) (tt := tYes) rfl Tx.sc__law_changed.nd (pi_range2 (by rfl) T.b_range (pa_cons (pe_callB call_len_seq (by rfl) T.b_len (by decide +kernel) (pa_cons (pe_ix ix_tup (pv 2) pe_int (fun _ _ => rfl)) pa_nil)) (pa_cons (pe_op op_add (pv 3) pe_int) pa_nil))) (blkOk_by (own := [("_law_distance", 7)]) (N := Tx.N__law_changed) (sc := defScope Tx.s__law_changed) (by decide +kernel)) (fun _ _ _ _ _ => (pg_name (i := 7) Tx.sc__law_changed.nd rfl (Or.inl rfl))) (fun _ _ _ _ _ => pts_nil) (fun _ _ _ _ _ => (C8.pe_c (ok__law_at T) hr (by decide) rfl (pa_cons (pv 2) (pa_cons (pv 7) pa_nil))))))) (pss_cons (ps_asg (pv 5) (pg_sub (pv 1) (pv 3) (set_own (ok_Row_setitem T) T.nq_Row hr (by decide)))) (pss_one (ps_ret (pe_tup (pa_cons (pe_op op_cat (pe_op op_cat (pe_slice sl_list (pv 6) po_none (po_some (pv 3))) (pe_lst (pa_cons (pv 5) pa_nil))) (pe_slice sl_list (pv 6) (po_some (pe_op op_add (pv 3) pe_int)) po_none)) (pa_cons (pe_ix ix_tup (pv 2) pe_int (fun _ _ => rfl)) pa_nil)))))))))), ?_⟩
    have el : (tls told).length = told.length := List.length_map _
    have n8 := ok.n
    -- at = draw(8)
    refine ⟨_, rfl, r, 8, rfl, hR, by decide, by decide, fun d H1 d0 d1 e1 R1 => ?_⟩
    obtain ⟨k, rfl⟩ : ∃ k : Nat, d = (k : Int) := ⟨d.toNat, by omega⟩
    have hk : k < 8 := by omega
    have PA1 := PA.extR hR e1
    have RA1 := R.extR hR e1
    -- wide
    refine ⟨_, rfl, _, rfl, p, l, told, far, k, rfl, PA1, ok, pow1900 (by omega), fun H2 e2 => ?_⟩
    have w20 := word_wok ok (i := k) (by omega)
    refine ⟨_, rfl, by rw [tx_len]; exact Nat.le_trans w20.sz (by decide), ?_⟩
    have R2 := R1.ext e2 (by simp)
    refine ⟨_, rfl, _, rfl, _, rfl, (by show 6 ≤ sizeLine; decide), fun c nc => .inl ⟨r, c, _, rfl, R2.new nc, RngAt.ne R2 nc, upd_same, by decide, by decide, fun v H3 hv e3 R3 => ?_⟩⟩
    have : ∃ n : Int, -5 ≤ n ∧ n ≤ 5 ∧ v = .int n := by
      simp only [List.mem_cons, List.not_mem_nil, or_false] at hv
      rcases hv with rfl | rfl | rfl | rfl | rfl | rfl
      · exact ⟨0, by decide, by decide, rfl⟩
      · exact ⟨1, by decide, by decide, rfl⟩
      · exact ⟨-1, by decide, by decide, rfl⟩
      · exact ⟨2, by decide, by decide, rfl⟩
      · exact ⟨-2, by decide, by decide, rfl⟩
      · exact ⟨5, by decide, by decide, rfl⟩
    obtain ⟨n, n0, n1, rfl⟩ := this
    refine ⟨_, _, rfl, rfl, ?_⟩
    rw [tx_len]
    have e03 : Ext [r] H H3 := ((e1.trans (e2.sub (by simp))).trans (Ext.new nc)).trans e3
    have hw := w20.sz
    obtain ⟨m, hm, hm20⟩ : ∃ m : Nat, (if (if (20 : Int) < ((wordAt told far k).length : Int) + n then (20 : Int) else ((wordAt told far k).length : Int) + n) > 0 then (if (20 : Int) < ((wordAt told far k).length : Int) + n then (20 : Int) else ((wordAt told far k).length : Int) + n) else 0) = (m : Int) ∧ m ≤ 20 := by
      refine ⟨((if (20 : Int) < ((wordAt told far k).length : Int) + n then (20 : Int) else ((wordAt told far k).length : Int) + n)).toNat, ?_, ?_⟩ <;> split <;> (try split) <;> omega
    refine ⟨_, rfl, _, rfl, .inl ⟨_, rfl, _, _, rfl, _, _, rfl, r, m, by rw [← hm]; rfl, R3, by omega, fun wl H4 wl1 wl2 e4 R4 => ?_⟩⟩
    have e04 := e03.trans e4
    have PA4 := PA.extR hR e04
    have RA4 := R.extR hR e04
    -- terms
    refine ⟨_, rfl, p, _, 0, _, rfl, rfl, SqT.of PA4.tp, rfl, l, _, rfl, .inl (SqL.of PA4.ls), fun c1 nc1 => ?_⟩
    have e5 : Ext [] H4 (upd H4 c1 (.lst (tls told))) := Ext.new nc1
    have hc1 : upd H4 c1 (.lst (tls told)) c1 = some (.lst (tls told)) := upd_same
    generalize upd H4 c1 (.lst (tls told)) = H5 at e5 hc1 ⊢
    have PA5 := PA4.ext0 e5
    refine ⟨_, rfl, p, _, 0, _, rfl, rfl, SqT.of PA5.tp, rfl, l, _, rfl, .inl (SqL.of PA5.ls), _, rfl, _, _, rfl, rfl, _, _, rfl, ⟨by omega, by omega, by omega, by omega⟩, fun D hD => ?_⟩
    refine lc_it walk_range (fun i H' => H' D = some (.lst (tls ((List.range' told.length i).map (wordAt told far)))) ∧ Ext [] H5 H') ⟨upd_same, Ext.new hD⟩ (fun _ _ _ _ => trivial) ?_ ?_
    · rintro i x H6' H6 hi ⟨g1, g2⟩ ⟨rfl, rfl⟩
      refine ⟨rfl, _, rfl, _, rfl, p, l, told, far, told.length + i, (by show [V.ref p, V.int (((tls told).length : Int) + (i : Int))] = _; rw [el]; rfl), PA5.ext0 g2, ok, pow1900 (by omega), fun H7 e7 => ⟨_, e7 D _ (by simp) g1, ?_, ?_, Ext.mut (g2.trans e7) hD⟩⟩
      · unfold tls
        rw [List.length_map, List.length_map, List.length_range']
        exact Nat.lt_of_lt_of_le (show i < 1000 by omega) (by decide)
      · rw [upd_same, List.range'_concat, List.map_append, tls_app]
        show _ = some (HO.lst (_ ++ tls [wordAt told far (told.length + 1 * i)]))
        rw [Nat.one_mul]; rfl
    · rintro H6 ⟨g1, g2⟩
      have en : (((k : Int) + 1) - ((tls told).length : Int)).toNat = k + 1 - told.length := by omega
      rw [en] at g1
      have hc6 := g2 c1 _ (by simp) hc1
      refine ⟨c1, D, _, _, rfl, rfl, hc6, g1, ?_, fun X hX => ?_⟩
      · unfold tls
        rw [List.length_map, List.length_map, List.length_map, List.length_range']
        exact sz1000 (by omega)
      · have eX : tls told ++ tls ((List.range' told.length (k + 1 - told.length)).map (wordAt told far)) = tls (upTo told far (k + 1)) := (tls_app _ _).symm
        rw [eX]
        have e7 : Ext [] H4 (upd H6 X (.lst (tls (upTo told far (k + 1))))) := (e5.trans g2).trans (Ext.new hX)
        have hX7 : upd H6 X (.lst (tls (upTo told far (k + 1)))) X = some (.lst (tls (upTo told far (k + 1)))) := upd_same
        have nX6 : H6 X = none := hX
        generalize upd H6 X (.lst (tls (upTo told far (k + 1)))) = H7 at e7 hX7 ⊢
        have RA7 := RA4.ext0 e7
        have PA7 := PA4.ext0 e7
        have R7 := R4.ext e7 (by simp)
        obtain ⟨⟨dx, v, ha, hf⟩, ht⟩ := id RA7
        have wok : WOk wl := ⟨by omega, wl2⟩
        -- made[at] = word
        refine ⟨_, rfl, _, rfl, _, rfl, a, dx, _, rfl, ha, a, t, told, far, k, wl, rfl, RA7, ok, hk, wok, fun H8 e8 RA8 => ?_⟩
        have nXt : X ≠ t := fun z => by
          have := (RA4.ext0 (e5.trans g2)).ls
          rw [← z, nX6] at this
          cases this
        have nrt : r ≠ t := fun z => by
          obtain ⟨x, y, h1, _⟩ := R7
          rw [z, ht] at h1
          exact tls_ne told x y (HO.lst.inj (Option.some.inj h1))
        have npt : p ≠ t := ne_of PA7.tp ht (by intro z; cases z)
        have hX8 := e8 X _ (by simpa using nXt) hX7
        have PA8 := PA7.ext e8 (by simpa using npt) (by simpa using nlt)
        have R8 := R7.ext e8 (by simpa using nrt)
        have lu : (upTo told far (k + 1)).length = max told.length (k + 1) := upTo_len _ _ _
        have lt : (tls (upTo told far (k + 1))).length = max told.length (k + 1) := by unfold tls; rw [List.length_map, lu]
        -- the new plan
        refine ⟨_, rfl, _, rfl, _, rfl, X, _, rfl, SqL.of hX8, fun p1 n1 => ?_⟩
        rw [cutV_to]
        refine ⟨_, rfl, (by show 1 ≤ sizeLine; decide), fun p2 n2 => ?_⟩
        have n12 : p1 ≠ p2 := ne_of_none upd_same n2
        refine ⟨p1, p2, _, _, rfl, rfl, (by rw [upd_ne n12]; exact upd_same), upd_same, by rw [List.length_take]; exact sz1000 (by simp; omega), fun p3 n3 => ?_⟩
        have e9 : Ext [] H8 (upd (upd (upd H8 p1 (.lst ((tls (upTo told far (k + 1))).take k))) p2 (.lst [V.str (tx wl)])) p3 (.lst ((tls (upTo told far (k + 1))).take k ++ [V.str (tx wl)]))) := ((Ext.new n1).trans (Ext.new n2)).trans (Ext.new n3)
        have h93 : (upd (upd (upd H8 p1 (.lst ((tls (upTo told far (k + 1))).take k))) p2 (.lst [V.str (tx wl)])) p3 (.lst ((tls (upTo told far (k + 1))).take k ++ [V.str (tx wl)]))) p3 = some (.lst ((tls (upTo told far (k + 1))).take k ++ [V.str (tx wl)])) := upd_same
        generalize (upd (upd (upd H8 p1 (.lst ((tls (upTo told far (k + 1))).take k))) p2 (.lst [V.str (tx wl)])) p3 (.lst ((tls (upTo told far (k + 1))).take k ++ [V.str (tx wl)]))) = H9 at e9 h93 ⊢
        refine ⟨_, rfl, _, rfl, _, _, rfl, rfl, _, rfl, X, _, rfl, SqL.of (e9 X _ (by simp) hX8), fun p4 n4 => ?_⟩
        rw [show ((k : Int) + 1) = ((k + 1 : Nat) : Int) by omega, cutV_from]
        have n34 : p3 ≠ p4 := ne_of_none h93 n4
        refine ⟨p3, p4, _, _, rfl, rfl, (by rw [upd_ne n34]; exact h93), upd_same, by rw [List.length_append, List.length_take, List.length_drop]; exact sz1000 (by simp; omega), fun p5 n5 => ?_⟩
        have es : (tls (upTo told far (k + 1))).take k ++ [V.str (tx wl)] ++ (tls (upTo told far (k + 1))).drop (k + 1) = tls (setAt told far k wl) := by
          rw [set_cut _ _ _ (by omega)]
          unfold setAt tls
          rw [List.map_set]
        rw [es]
        have e10 : Ext [] H9 (upd (upd H9 p4 (.lst ((tls (upTo told far (k + 1))).drop (k + 1)))) p5 (.lst (tls (setAt told far k wl)))) := (Ext.new n4).trans (Ext.new n5)
        have h105 : (upd (upd H9 p4 (.lst ((tls (upTo told far (k + 1))).drop (k + 1)))) p5 (.lst (tls (setAt told far k wl)))) p5 = some (.lst (tls (setAt told far k wl))) := upd_same
        have n5' : H9 p5 = none := Ext.free (Ext.new n4) n5
        generalize (upd (upd H9 p4 (.lst ((tls (upTo told far (k + 1))).drop (k + 1)))) p5 (.lst (tls (setAt told far k wl)))) = H10 at e10 h105 ⊢
        have e810 := e9.trans e10
        refine ⟨_, rfl, p, _, 1, _, rfl, rfl, SqT.of (PA8.ext0 e810).tp, rfl, (by show 2 ≤ sizeLine; decide), fun p6 n6 => ?_⟩
        have e811 : Ext [] H8 (upd H10 p6 (.tup [.ref p5, .str (tx (farT far))])) := e810.trans (Ext.new n6)
        have n56 : p5 ≠ p6 := ne_of_none h105 n6
        have n5t : p5 ≠ t := fun z => by
          have := e9 t _ (by simp) RA8.ls
          rw [← z, n5'] at this
          cases this
        refine q p6 p5 (setAt told far k wl) _ (setAt_ok ok hk wok) ?_ (R8.ext e811 (by simp)) (RA8.ext0 e811) ⟨upd_same, by rw [upd_ne n56]; exact h105⟩ n5t
        exact (((e04.sub (by simp)).trans (e7.sub (by simp))).trans (e8.sub (by simp))).trans (e811.sub (by simp))
end
end K15
set_option maxHeartbeats 4000000
namespace K15
open PySem PySem.Spec PyProof.Rows L2 Eb
/-! ## smooth plans -/
/-- the width behind the j-th word, w behind the last one -/
def nextW (told : List (List Nat)) (w : Nat) (j : Nat) : Nat := match told[j + 1]? with
  | some l => l.length
  | none => w
def Up (told : List (List Nat)) (w : Nat) : Prop := ∀ j l, told[j]? = some l → nextW told w j = l.length ∨ nextW told w j = l.length + 1
theorem Up.more {told : List (List Nat)} {w w' : Nat} {l : List Nat} (h : Up told w) (hl : l.length = w) (hw : w' = w ∨ w' = w + 1) : Up (told ++ [l]) w' := by
  intro j z hz
  have hj : j < told.length + 1 := by
    have := (List.getElem?_eq_some_iff.mp hz).1
    simpa using this
  by_cases h1 : j < told.length
  · rw [List.getElem?_append_left h1] at hz
    have e : nextW (told ++ [l]) w' j = nextW told w j := by
      unfold nextW
      by_cases h2 : j + 1 < told.length
      · rw [List.getElem?_append_left h2, List.getElem?_eq_getElem h2]
      · have e2 : j + 1 = told.length := by omega
        rw [List.getElem?_append_right (by omega), e2, Nat.sub_self, List.getElem?_eq_none (Nat.le_refl _)]
        exact hl
    rw [e]
    exact h j z hz
  · have ej : j = told.length := by omega
    subst ej
    rw [List.getElem?_append_right (Nat.le_refl _), Nat.sub_self] at hz
    cases (show l = z by simpa using hz)
    unfold nextW
    rw [List.getElem?_eq_none (by simp)]
    show w' = _ ∨ w' = _
    omega
theorem up_next {told : List (List Nat)} {far : Far} {w : Nat} (hf : wd told far told.length = w) {j : Nat} (hj : j < told.length) : wd told far (j + 1) = nextW told w j := by
  unfold nextW
  by_cases h : j + 1 < told.length
  · unfold wd wordAt
    rw [List.getElem?_eq_getElem h]
  · rw [show j + 1 = told.length by omega, hf, List.getElem?_eq_none (Nat.le_refl _)]
theorem up_fwd {told : List (List Nat)} {far : Far} {w : Nat} (h : Up told w) (hf : wd told far told.length = w) : fwd told far = .none := by
  unfold fwd
  refine firstOf_none fun j hj => ?_
  have e := h j told[j] (List.getElem?_eq_getElem hj)
  have e1 := up_next hf hj
  have e2 : wd told far j = told[j].length := by unfold wd wordAt; rw [List.getElem?_eq_getElem hj]
  unfold fF
  rw [e1, e2, if_neg (by omega), if_neg (by omega)]
theorem up_bwd {told : List (List Nat)} {l : List Nat} {w : Nat} (h : Up told w) (hl : ∀ z, told[0]? = some z → l.length = z.length) : bwd told.reverse (.word l) = .none := by
  unfold bwd
  refine firstOf_none fun j hj => ?_
  rw [List.length_reverse] at hj
  have r1 : ∀ i (hi : i < told.length), wd told.reverse (.word l) i = (told[told.length - 1 - i]'(by omega)).length := fun i hi => by
    unfold wd wordAt
    rw [List.getElem?_reverse hi, List.getElem?_eq_getElem (by omega)]
  unfold fB
  by_cases h2 : j + 1 < told.length
  · have e := h (told.length - 1 - (j + 1)) (told[told.length - 1 - (j + 1)]'(by omega)) (List.getElem?_eq_getElem (by omega))
    have en : nextW told w (told.length - 1 - (j + 1)) = (told[told.length - 1 - j]'(by omega)).length := by
      unfold nextW
      rw [show told.length - 1 - (j + 1) + 1 = told.length - 1 - j by omega, List.getElem?_eq_getElem (by omega)]
    rw [r1 j hj, r1 (j + 1) h2]
    rw [en] at e
    rw [if_neg (by omega), if_neg (by omega)]
  · have e0 : wd told.reverse (.word l) (j + 1) = l.length := by
      unfold wd
      rw [wordAt_out (by rw [List.length_reverse]; omega)]; rfl
    have e1 := hl (told[told.length - 1 - j]'(by omega)) (by rw [show (0 : Nat) = told.length - 1 - j by omega, List.getElem?_eq_getElem (by omega)])
    rw [r1 j hj, e0]
    rw [if_neg (by omega), if_neg (by omega)]
def spSmooth : Sp := fun vs H Q _ => ∃ (r : Addr) (b : Bool), vs = [.ref r, .bl b] ∧ RngAt H r ∧ ∀ (p l : Addr) (told : List (List Nat)) (far : Far) (H' : Hp), RowOk told far → (if b then fwd told far else bwd told far) = .none → Ext [r] H H' → RngAt H' r → H p = none → H l = none → PlanAt H' p l told far → Q (.ref p) H'
theorem dp_tls {K : PySem.W.Frag} {H : Hp} : ∀ told : List (List Nat), DpAll K H (tls told) (told.map fun l => PyData.str (tx l))
  | [] => .nil
  | l :: r => .cons (.str (tx l)) (dp_tls r)
theorem shaped_tls : ∀ {told : List (List Nat)}, (∀ l ∈ told, WOk l) → PyData.canLayAll0 (told.map fun l => PyData.str (tx l)) = true ∧ PyData.depthAll (told.map fun l => PyData.str (tx l)) = 0
  | [], _ => ⟨rfl, rfl⟩
  | l :: r, h => by
    obtain ⟨h1, h2⟩ := shaped_tls (told := r) fun z hz => h z (List.mem_cons_of_mem _ hz)
    have hs : PyData.strOk (tx l) = true := by
      unfold PyData.strOk
      rw [← Array.all_toList, tx_list]
      refine List.all_eq_true.mpr fun c hc => ?_
      have := List.all_eq_true.mp (h l (by simp)).ok c hc
      unfold okC at this
      have := of_decide_eq_true this
      exact decide_eq_true (by omega)
    refine ⟨?_, ?_⟩
    · show (PyData.strOk (tx l) && PyData.canLayAll0 (r.map fun l => PyData.str (tx l))) = true
      rw [hs, h1]; rfl
    · show max (PyData.depth (.str (tx l))) (PyData.depthAll (r.map fun l => PyData.str (tx l))) = 0
      rw [h2]; rfl
section
variable {P : Program} {w : World} {K : PySem.W.Frag} {mg : Str → Option Value} {base : Heap}
theorem ok__law_smooth (T : Tx.TX K mg) : C8.Cal P w K mg base 4 "_law_smooth" (spSmooth) [] := by
  refine calD (k := 3) T.d__law_smooth T.g__law_smooth Tx.sc__law_smooth (fun _ _ _ _ _ _ us hl => match us, hl with | [_, _], _ => rfl) ?len ?run
  case len => rintro vs H Q E ⟨r, b, rfl, _⟩; rfl
  case run =>
    rintro cdv A' outer s H vs Q E hr ⟨r, b, rfl, hR, q⟩
    refine ⟨_, by exact (pss_cons (ps_par (i := 2) (j := 3) (by rfl) Tx.sc__law_smooth.nd rfl rfl (by decide) rfl rfl (pa_cons (C8.pe_c (ok__law_draw T) hr (by decide) rfl (pa_cons (pv 0) (pa_cons pe_int pa_nil))) (pa_cons (pe_lst pa_nil) pa_nil)) (by rfl)) (pss_cons (ps_for PassesOwn.never rfl (pi_range1 (by rfl) T.b_range (pa_cons (C8.pe_c (ok__law_draw T) hr (by decide) rfl (pa_cons (pv 0) (pa_cons pe_int pa_nil))) pa_nil)) (pg_name (i := 4) Tx.sc__law_smooth.nd rfl (Or.inl rfl)) (pss_cons (ps_expr (pe_bm PySem.F.plainAttrs_list PySem.F.slot_list_append PySem.F.type_list_append mt_append (pv 3) (pa_cons (C8.pe_c (ok__law_word T) hr (by decide) rfl (pa_cons (pv 0) (pa_cons (pv 2) pa_nil))) pa_nil))) (pss_one (ps_set (i := 2) Tx.sc__law_smooth.nd rfl (Or.inl rfl) (pe_op op_add (pv 2) (C8.pe_c (ok__law_draw T) hr (by decide) rfl (pa_cons (pv 0) (pa_cons pe_int pa_nil)))))))) (pss_cons (ps_if (pt_val (pv 1)) (pss_cons (ps_set (i := 5) Tx.sc__law_smooth.nd rfl (Or.inl rfl) (pe_j (pe_and (pe_cmpR op_gt (pv 2) pe_int (nomark _)) (pe_one (pe_cmpR op_eq (C8.pe_c (ok__law_draw T) hr (by decide) rfl (pa_cons (pv 0) (pa_cons pe_int pa_nil))) pe_int (nomark _)))))) (pss_one (ps_ret (pe_tup (pa_cons (pv 3) (pa_cons (pe_j (pe_ifExp (pt_val (pv 5)) (pe_op op_add_str (C8.pe_c (ok__law_word T) hr (by decide) rfl (pa_cons (pv 0) (pa_cons (pe_op op_sub (pv 2) pe_int) pa_nil))) pe_str) (C8.pe_c (ok__law_word T) hr (by decide) rfl (pa_cons (pv 0) (pa_cons (pv 2) pa_nil))))) pa_nil)))))) pss_nil) (pss_one (ps_ret (pe_tup (pa_cons (pe_revL (pv 3)) (pa_cons (pe_j (pe_ifExp (PW.pt (pw_and (pt_cmpR (op_neD hr.units) (pv 3) (pe_lst pa_nil) (nomark _)) (pw_and1 (pt_cmpR op_eq (C8.pe_c (ok__law_draw T) hr (by decide) rfl (pa_cons (pv 0) (pa_cons pe_int pa_nil))) pe_int (nomark _))))) (pe_ix ix_list (pv 3) pe_int (fun _ _ => rfl)) (C8.pe_c (ok__law_word T) hr (by decide) rfl (pa_cons (pv 0) (pa_cons (pe_callB call_len_str (by rfl) T.b_len (by decide +kernel) (pa_cons (pe_ix ix_list (pe_op op_cat (pv 3) (pe_lst (pa_cons pe_str pa_nil))) pe_int (fun _ _ => rfl)) pa_nil)) pa_nil))))) pa_nil)))))))), ?_⟩
    refine ⟨_, rfl, r, 8, rfl, hR, by decide, by decide, fun w0 H1 a0 a1 e1 R1 => ⟨by decide, fun Tm hT => ⟨_, _, rfl, ?_⟩⟩⟩
    have nT : Tm ≠ r := RngAt.ne R1 hT
    have fT : H Tm = none := e1.back (by simpa using nT) hT
    have e2 : Ext [r] H (upd H1 Tm (.lst [])) := Ext.mut e1 fT
    have hT2 : upd H1 Tm (.lst []) Tm = some (.lst []) := upd_same
    have R2 : RngAt (upd H1 Tm (.lst [])) r := R1.new hT
    generalize upd H1 Tm (.lst []) = H2 at e2 hT2 R2 ⊢
    refine ⟨_, rfl, r, 9, rfl, R2, by decide, by decide, fun n H3 n0 n1 e3 R3 => ⟨_, rfl, by omega, by omega, for_it walk_range (fun i σ H' => ∃ (told : List (List Nat)) (wi : Nat) (o : Option V), σ = [some (.ref r), some (.bl b), some (.int wi), some (.ref Tm), o, none] ∧ told.length = i ∧ Up told wi ∧ wi ≤ 7 + i ∧ (∀ l ∈ told, WOk l) ∧ H' Tm = some (.lst (tls told)) ∧ Ext [r] H H' ∧ RngAt H' r) ⟨[], w0.toNat, none, ?_, rfl, ?_, by omega, (fun _ h => absurd h List.not_mem_nil), e3 Tm _ (by simpa using nT) hT2, e2.trans e3, R3⟩ (fun _ _ _ _ _ => trivial) ?_ ?_⟩⟩
    · rw [show ((w0.toNat : Nat) : Int) = w0 by omega]; rfl
    · intro j l h; simp at h
    · rintro i x σ H4' H4 hi ⟨told, wi, o, rfl, l1, up, lw, wk, hT4, e4, R4⟩ ⟨rfl, rfl⟩
      refine ⟨_, rfl, .inl ⟨rfl, _, SqL.of hT4⟩, _, rfl, _, rfl, r, wi, rfl, R4, by omega, fun l H5 z1 z2 e5 R5 => ?_⟩
      have hT5 := e5 Tm _ (by simpa using nT) hT4
      refine ⟨Tm, _, _, rfl, rfl, hT5, ?_, ?_⟩
      · unfold tls
        rw [List.length_map, l1]
        exact Nat.lt_of_lt_of_le (show i < 1000 by omega) (by decide)
      · have R6 : RngAt (upd H5 Tm (.lst (tls told ++ [V.str (tx l)]))) r := by
          obtain ⟨a, b, h1, h2⟩ := R5
          exact ⟨a, b, by rw [upd_ne nT.symm]; exact h1, h2⟩
        have e6 : Ext [r] H (upd H5 Tm (.lst (tls told ++ [V.str (tx l)]))) := Ext.mut (e4.trans e5) fT
        have hT6 : (upd H5 Tm (.lst (tls told ++ [V.str (tx l)]))) Tm = some (.lst (tls (told ++ [l]))) := by rw [upd_same, tls_app]; rfl
        generalize (upd H5 Tm (.lst (tls told ++ [V.str (tx l)]))) = H6 at R6 e6 hT6 ⊢
        refine ⟨_, rfl, _, rfl, r, 2, rfl, R6, by decide, by decide, fun d H7 d0 d1 e7 R7 => ⟨_, _, rfl, rfl, ?_⟩⟩
        have lw7 : wi ≤ 15 := by omega
        refine ⟨told ++ [l], wi + d.toNat, some (.int (0 + (i : Int))), ?_, by simp [l1], up.more z1 (by omega), by omega, fun z hz => ?_, e7 Tm _ (by simpa using nT) hT6, e6.trans e7, R7⟩
        · rw [show ((wi + d.toNat : Nat) : Int) = (wi : Int) + d by omega]; rfl
        · rcases List.mem_append.mp hz with hz | hz
          · exact wk z hz
          · cases List.mem_singleton.mp hz
            exact ⟨by omega, z2⟩
    · rintro σ H4 ⟨told, wi, o, rfl, l1, up, lw, wk, hT4, e4, R4⟩
      have l8 : told.length ≤ 8 := by omega
      have w15 : wi ≤ 15 := by omega
      refine ⟨_, rfl, _, rfl, ?_⟩
      cases b with
      | true =>
        refine itT rfl ⟨fun v H' => ∃ c : Bool, v = .bl c ∧ (c = true → 0 < wi) ∧ Ext [r] H4 H' ∧ RngAt H' r, ⟨_, rfl, _, _, rfl, rfl, _, rfl, it2 (fun c => ?_) (fun c => ?_)⟩, ?_⟩
        · have c' := of_decide_eq_true c
          exact ⟨_, rfl, r, 2, rfl, R4, by decide, by decide, fun d H5 d0 d1 e5 R5 => ⟨rfl, _, rfl, fun _ => by omega, e5, R5⟩⟩
        · exact ⟨false, rfl, (fun h => absurd h (by decide)), Ext.refl _, R4⟩
        · rintro v H5 ⟨c, rfl, hc, e5, R5⟩
          refine ⟨_, rfl, ?_⟩
          refine ⟨fun v H' => ∃ far, FarOk far ∧ v = .str (tx (farT far)) ∧ wd told far told.length = wi ∧ Ext [r] H5 H' ∧ RngAt H' r, ⟨_, rfl, _, rfl, it2 (fun c1 => ?_) (fun c1 => ?_)⟩, ?_⟩
          · have h0 := hc c1
            have h35 : (PySem.Str.ofString "#" : Str) = tx [35] := by rw [Eb.hash_eq]; rfl
            refine ⟨_, rfl, _, rfl, _, _, rfl, rfl, r, wi - 1, (by rw [show ((wi - 1 : Nat) : Int) = (wi : Int) - 1 by omega]; rfl), R5, by omega, fun l H6 z1 z2 e6 R6 => ⟨_, _, rfl, rfl, ?_, ?_⟩⟩
            · rw [h35, tx_len, tx_len]; exact sz1000 (by simp; omega)
            · refine ⟨.pat l [], ⟨z2, rfl, by simp; omega⟩, by rw [h35, tx_app]; rfl, ?_, e6, R6⟩
              rw [wd_far (Nat.le_refl _) (by omega)]
              dsimp only
              rw [if_pos (by omega)]
              simp only [List.length_nil]
              omega
          · refine ⟨_, rfl, _, rfl, r, wi, rfl, R5, by omega, fun l H6 z1 z2 e6 R6 => ⟨.word l, ⟨by omega, z2⟩, rfl, ?_, e6, R6⟩⟩
            rw [wd_far (Nat.le_refl _) (by omega)]
            dsimp only
            omega
          · rintro v H6 ⟨far, ok, rfl, wf, e6, R6⟩
            have h6T := (e5.trans e6) Tm _ (by simpa using nT) hT4
            refine ⟨(by show 2 ≤ sizeLine; decide), fun t ht => ?_⟩
            have ntr : t ≠ r := RngAt.ne R6 ht
            have e06 := e4.trans (e5.trans e6)
            exact q t Tm told far _ ⟨l8, wk, ok⟩ (up_fwd up wf) (e06.trans (Ext.new ht)) (R6.new ht) (e06.back (by simpa using ntr) ht) fT ⟨upd_same, by rw [upd_ne (ne_of_none h6T ht)]; exact h6T⟩
      | false =>
        refine itF rfl ⟨_, rfl, Tm, _, rfl, SqL.of hT4, fun X hX => ?_⟩
        have er : (tls told).reverse = tls told.reverse := by unfold tls; rw [List.map_reverse]
        rw [er]
        have nXr : X ≠ r := RngAt.ne R4 hX
        have fX : H X = none := e4.back (by simpa using nXr) hX
        have nTX : Tm ≠ X := ne_of_none hT4 hX
        have e5 : Ext [r] H4 (upd H4 X (.lst (tls told.reverse))) := Ext.new hX
        have hX5 : upd H4 X (.lst (tls told.reverse)) X = some (.lst (tls told.reverse)) := upd_same
        have R5 : RngAt (upd H4 X (.lst (tls told.reverse))) r := R4.new hX
        have hT5 : upd H4 X (.lst (tls told.reverse)) Tm = some (.lst (tls told)) := by rw [upd_ne nTX]; exact hT4
        generalize upd H4 X (.lst (tls told.reverse)) = H5 at e5 hX5 R5 hT5 ⊢
        refine ⟨fun v H' => ∃ l, WOk l ∧ v = .str (tx l) ∧ (∀ z, told[0]? = some z → l.length = z.length) ∧ Ext [r] H5 H' ∧ RngAt H' r, ?_, ?_⟩
        · -- the word of the first one's width
          have other : ∀ H6, Ext [r] H5 H6 → RngAt H6 r → tCall spWord [] C8.E0 (tCons (tVar 0) (tCons (tCB (fun xs H Q => ∃ z, xs = [V.str z] ∧ z.length ≤ sizeLine ∧ Q (V.int z.length) H) (tCons (tOp (rIxL K) (tOp rCat (tVar 3) (tLst (tCons (tC (.str "")) tNil))) (tC (.int 0))) tNil)) tNil)) [some (.ref r), some (.bl false), some (.int wi), some (.ref Tm), o, none] H6
              (fun v H' => ∃ l, WOk l ∧ v = .str (tx l) ∧ (∀ z, told[0]? = some z → l.length = z.length) ∧ Ext [r] H5 H' ∧ RngAt H' r) := by
            intro H6 e6 R6
            have hT6 := e6 Tm _ (by simpa using nT) hT5
            refine ⟨_, rfl, _, rfl, (by show 1 ≤ sizeLine; decide), fun Y hY => ?_⟩
            have nTY : Tm ≠ Y := ne_of_none hT6 hY
            refine ⟨Tm, Y, _, _, rfl, rfl, (by rw [upd_ne nTY]; exact hT6), upd_same, by unfold tls; rw [List.length_map]; exact sz1000 (by simp; omega), fun Z hZ => ?_⟩
            have nYr : Y ≠ r := RngAt.ne R6 hY
            have R7 : RngAt (upd (upd H6 Y (.lst [V.str ""])) Z (.lst (tls told ++ [V.str ""]))) r := (R6.new hY).new hZ
            have e7 : Ext [r] H6 (upd (upd H6 Y (.lst [V.str ""])) Z (.lst (tls told ++ [V.str ""]))) := (Ext.new hY).trans (Ext.new hZ)
            obtain ⟨z, hz, hz20, hz0⟩ : ∃ z : List Nat, (tls told ++ [V.str ""])[0]? = some (.str (tx z)) ∧ z.length ≤ 20 ∧ (∀ y, told[0]? = some y → z.length = y.length) := by
              cases told with
              | nil => exact ⟨[], by rw [← tx_nil]; rfl, by decide, fun y h => by cases h⟩
              | cons y rest => exact ⟨y, rfl, (wk y (by simp)).sz, fun y' h => by cases h; rfl⟩
            refine ⟨Z, _, 0, _, rfl, rfl, SqL.of upd_same, at_g (j := 0) rfl hz, tx z, rfl, by rw [tx_len]; exact sz1000 (by omega), r, z.length, by rw [tx_len]; rfl, R7, by omega, fun l H8 z1 z2 e8 R8 => ?_⟩
            exact ⟨l, ⟨by omega, z2⟩, rfl, fun y hy => by rw [z1]; exact hz0 y hy, (e6.trans e7).trans e8, R8⟩
          obtain ⟨c1, c2⟩ := shaped_tls wk
          have hY0 : ∀ Y, H5 Y = none → Tm ≠ Y := fun Y h => ne_of_none hT5 h
          refine ⟨_, rfl, by decide, fun Y hY => ⟨_, _, .lst (SqL.of (by rw [upd_ne (hY0 Y hY)]; exact hT5)) (dp_tls told), .lst (SqL.of upd_same) .nil, ?_, rfl, _, rfl, ?_⟩⟩
          · unfold SeqAt.shaped
            rw [show PyData.canLay0 (.list (told.map fun l => PyData.str (tx l))) = true from c1]
            show (true && decide (PyData.depthAll _ + 1 ≤ 64)) = true
            rw [c2]; rfl
          · have nYr : Y ≠ r := RngAt.ne R5 hY
            have e6 : Ext [r] H5 (upd H5 Y (.lst [])) := Ext.new hY
            have R6 : RngAt (upd H5 Y (.lst [])) r := R5.new hY
            have hT6 := e6 Tm _ (by simpa using nT) hT5
            generalize upd H5 Y (.lst []) = H6 at e6 R6 hT6 ⊢
            cases told with
            | nil => exact itF rfl (itF rfl (other H6 e6 R6))
            | cons y rest =>
              refine itT rfl ⟨_, rfl, r, 2, rfl, R6, by decide, by decide, fun d H7 d0 d1 e7 R7 => ⟨rfl, _, rfl, it2 (fun c => ?_) (fun c => ?_)⟩⟩
              · exact ⟨_, rfl, Tm, _, 0, _, rfl, rfl, SqL.of (e7 Tm _ (by simpa using nT) hT6), at_g (j := 0) (v := V.str (tx y)) rfl rfl, y, wk y (by simp), rfl, fun z hz => by cases hz; rfl, e6.trans e7, R7⟩
              · exact other H7 (e6.trans e7) R7
        · rintro v H6 ⟨l, ok, rfl, hl, e6, R6⟩
          have h6X := e6 X _ (by simpa using nXr) hX5
          refine ⟨(by show 2 ≤ sizeLine; decide), fun t ht => ?_⟩
          have ntr : t ≠ r := RngAt.ne R6 ht
          have e06 := (e4.trans e5).trans e6
          exact q t X told.reverse (.word l) _ ⟨by rw [List.length_reverse]; exact l8, fun z hz => wk z (List.mem_reverse.mp hz), ok⟩ (up_bwd up hl) (e06.trans (Ext.new ht)) (R6.new ht) (e06.back (by simpa using ntr) ht) fX ⟨upd_same, by rw [upd_ne (ne_of_none h6X ht)]; exact h6X⟩
end
end K15
set_option maxHeartbeats 4000000
namespace K15
open PySem PySem.Spec PyProof.Rows L2 Eb
def spRight : Sp := fun vs H Q _ => ∃ r : Addr, vs = [.ref r] ∧ RngAt H r ∧ ∀ H', Ext [r] H H' → Q (.bl true) H'
theorem Ext.forget {R S : List Addr} {H H1 H2 : Hp} (a : Ext R H H1) (b : Ext S H1 H2) (n : ∀ x ∈ S, x ∈ R ∨ H x = none) : Ext R H H2 := fun c o nc h => b c o (fun z => by
  rcases n c z with q | q
  · exact nc q
  · rw [q] at h; cases h) (a c o nc h)
section
variable {P : Program} {w : World} {K : PySem.W.Frag} {mg : Str → Option Value} {base : Heap}
theorem ok__law_right (T : Tx.TX K mg) : CalG P w K mg base 9 "_law_right" (spRight) := by
  refine calG (k := 8) T.d__law_right T.g__law_right Tx.sc__law_right (fun _ _ _ _ _ _ us hl => match us, hl with | [_], _ => rfl) ?len ?run
  case len => rintro vs H Q E ⟨r, rfl, _⟩; rfl
  case run =>
    rintro cdv A' outer s H vs Q E hgd hr ⟨r, rfl, hR, q⟩
    refine ⟨_, by exact (pss_cons (ps_for PassesOwn.never rfl (pi_list (pe_lst (pa_cons (C8.pe_c (ok__law_smooth T) hr (by decide) rfl (pa_cons (pv 0) (pa_cons pe_bl pa_nil))) (pa_cons (C8.pe_c (ok__law_smooth T) hr (by decide) rfl (pa_cons (pv 0) (pa_cons pe_bl pa_nil))) (pa_cons (C8.pe_c (ok__law_plan T) hr (by decide) rfl (pa_cons (pv 0) pa_nil)) pa_nil))))) (pg_name (i := 1) Tx.sc__law_right.nd rfl (Or.inl rfl)) (pss_cons (ps_set (i := 2) Tx.sc__law_right.nd rfl (Or.inl rfl) (C8.pe_c (ok__law_real T) hr (by decide) rfl (pa_cons (pv 1) pa_nil))) (pss_cons (ps_if (pt_not (pt_val (pe_g (ok__law_is_right T) hgd hr (by decide) rfl (pa_cons (pv 2) (pa_cons (pv 1) pa_nil))))) (pss_one (ps_ret pe_bl)) pss_nil) (pss_cons (ps_for PassesOwn.never rfl (pi_range1 (by rfl) T.b_range (pa_cons (C8.pe_c (ok__law_draw T) hr (by decide) rfl (pa_cons (pv 0) (pa_cons pe_int pa_nil))) pa_nil)) (pg_name (i := 3) Tx.sc__law_right.nd rfl (Or.inl rfl)) (pss_cons (ps_set (i := 1) Tx.sc__law_right.nd rfl (Or.inl rfl) (C8.pe_c (ok__law_changed T) hr (by decide) rfl (pa_cons (pv 0) (pa_cons (pv 2) (pa_cons (pv 1) pa_nil))))) (pss_one (ps_if (pt_not (pt_val (pe_g (ok__law_is_right T) hgd hr (by decide) rfl (pa_cons (pv 2) (pa_cons (pv 1) pa_nil))))) (pss_one (ps_ret pe_bl)) pss_nil)))) (pss_cons (ps_set (i := 4) Tx.sc__law_right.nd rfl (Or.inl rfl) (pe_j (pe_ifExp (pt_cmpR op_eq (C8.pe_c (ok__law_draw T) hr (by decide) rfl (pa_cons (pv 0) (pa_cons pe_int pa_nil))) pe_int (nomark _)) (C8.pe_c (ok__law_pattern_text T) hr (by decide) rfl (pa_cons (pv 0) pa_nil)) (C8.pe_c (ok__law_any_word T) hr (by decide) rfl (pa_cons (pv 0) pa_nil))))) (pss_cons (ps_expr (C8.pe_mt (ok_Row_set_far T) hr (by decide) (pv 2) (pa_cons (C8.pe_c (ok__law_far T) hr (by decide) rfl (pa_cons (pv 4) pa_nil)) pa_nil))) (pss_one (ps_if (pt_not (pt_val (pe_g (ok__law_is_right T) hgd hr (by decide) rfl (pa_cons (pv 2) (pa_cons (pe_tup (pa_cons (pe_ix ix_tup (pv 1) pe_int (fun _ _ => rfl)) (pa_cons (pv 4) pa_nil))) pa_nil))))) (pss_one (ps_ret pe_bl)) pss_nil)))))))) (pss_cons (ps_par (i := 5) (j := 6) (by rfl) Tx.sc__law_right.nd rfl rfl (by decide) rfl rfl (pa_cons (C8.pe_c (ok__law_smooth T) hr (by decide) rfl (pa_cons (pv 0) (pa_cons pe_bl pa_nil))) (pa_cons (C8.pe_c (ok__law_smooth T) hr (by decide) rfl (pa_cons (pv 0) (pa_cons pe_bl pa_nil))) pa_nil)) (by rfl)) (pss_one (ps_ret (pe_and (pe_cmp (pc_isN (C8.pe_mt0 (ok_Row_forward_fault T) hr (by decide) (C8.pe_c (ok__law_real T) hr (by decide) rfl (pa_cons (pv 5) pa_nil)))) rfl) (pe_one (pe_cmp (pc_isN (C8.pe_mt0 (ok_Row_backward_fault T) hr (by decide) (C8.pe_c (ok__law_real T) hr (by decide) rfl (pa_cons (pv 6) pa_nil)))) rfl))))))), ?_⟩
    refine ⟨_, rfl, r, true, rfl, hR, fun p1 l1 told1 far1 H1 ok1 sm1 e1 R1 np1 nl1 PA1 => ?_⟩
    refine ⟨_, rfl, r, false, rfl, R1, fun p2 l2 told2 far2 H2 ok2 sm2 e2 R2 np2 nl2 PA2 => ?_⟩
    refine ⟨_, rfl, r, rfl, R2, fun p3 l3 told3 far3 H3 ok3 e3 R3 np3 nl3 PA3 => ⟨(by show 3 ≤ sizeLine; decide), fun D hD => ?_⟩⟩
    have PA1' := (PA1.extR R1 e2).extR R2 e3
    have PA2' := PA2.extR R2 e3
    have nD : D ≠ r := RngAt.ne R3 hD
    have e03 := (e1.trans e2).trans e3
    have PD : ∀ x ∈ [V.ref p1, .ref p2, .ref p3], ∃ p l told far, x = .ref p ∧ RowOk told far ∧ PlanAt (upd H3 D (.lst [V.ref p1, .ref p2, .ref p3])) p l told far := by
      intro x hx
      simp only [List.mem_cons, List.not_mem_nil, or_false] at hx
      rcases hx with rfl | rfl | rfl
      · exact ⟨p1, l1, told1, far1, rfl, ok1, PA1'.ext0 (Ext.new hD)⟩
      · exact ⟨p2, l2, told2, far2, rfl, ok2, PA2'.ext0 (Ext.new hD)⟩
      · exact ⟨p3, l3, told3, far3, rfl, ok3, PA3.ext0 (Ext.new hD)⟩
    have RD : RngAt (upd H3 D (.lst [V.ref p1, .ref p2, .ref p3])) r := R3.new hD
    have hDD : (upd H3 D (.lst [V.ref p1, .ref p2, .ref p3])) D = some (.lst [V.ref p1, .ref p2, .ref p3]) := upd_same
    have e0D : Ext [r] H (upd H3 D (.lst [V.ref p1, .ref p2, .ref p3])) := e03.trans (Ext.new hD)
    generalize (upd H3 D (.lst [V.ref p1, .ref p2, .ref p3])) = HD at PD RD hDD e0D ⊢
    refine ⟨D, rfl, ⟨_, SqL.of hDD⟩, for_it (walk_list (K := K) (a := D) (xs := [V.ref p1, .ref p2, .ref p3])) (fun i σ H' => (∃ o1 o2 o3 o4, σ = [some (.ref r), o1, o2, o3, o4, none, none]) ∧ Ext [r] HD H' ∧ RngAt H' r) ⟨⟨_, _, _, _, rfl⟩, Ext.refl _, RD⟩ (fun i σ H' _ h => SqL.of (h.2.1 D _ (by simpa using nD) hDD)) ?_ ?_⟩
    · rintro i x σ H4' H4 hi ⟨⟨o1, o2, o3, o4, rfl⟩, e4, R4⟩ ⟨rfl, hx⟩
      obtain ⟨p, l, told, far, rfl, ok, PAD⟩ := PD x (List.mem_of_getElem? hx)
      have PA := PAD.extR RD e4
      -- made = real(plan)
      refine ⟨_, rfl, p, l, told, far, rfl, PA, ok, fun a t H5 e5 na nt RA => ?_⟩
      have eD5 := e4.trans (e5.sub (S := [r]) (by simp))
      have R5 := R4.ext e5 (by simp)
      have nta : t ≠ r := RngAt.ne R4 nt
      have nar : a ≠ r := RngAt.ne R4 na
      have fa : HD a = none := e4.back (by simpa using nar) na
      have ft : HD t = none := e4.back (by simpa using nta) nt
      have PA5 := PA.ext0 e5
      have nlt : l ≠ t := ne_of_none PA.ls nt
      refine ⟨_, rfl, _, rfl, a, t, p, l, told, far, rfl, RA, PA5, ok, fun H6 e6 => ⟨_, rfl, itF rfl ?_⟩⟩
      -- the changes
      have R6 := R5.ext e6 (by simp)
      refine ⟨_, rfl, r, 9, rfl, R6, by decide, by decide, fun n H7 n0 n1 e7 R7 => ⟨_, rfl, by omega, by omega, for_it walk_range (fun j σ H' => ∃ p' l' told' o, σ = [some (.ref r), some (.ref p'), some (.ref a), o, o4, none, none] ∧ RowOk told' far ∧ RowAt K H' a t told' far ∧ PlanAt H' p' l' told' far ∧ l' ≠ t ∧ Ext [r] HD H' ∧ RngAt H' r)
        ⟨p, l, told, o3, rfl, ok, (RA.ext0 e6).extR R6 e7, (PA5.ext0 e6).extR R6 e7, nlt, (eD5.trans (e6.sub (by simp))).trans e7, R7⟩ (fun _ _ _ _ _ => trivial) ?_ ?_⟩⟩
      · rintro j x σ H8' H8 hj ⟨p', l', told', o, rfl, ok', RA', PA', nlt', eD, R'⟩ ⟨rfl, rfl⟩
        refine ⟨_, rfl, _, rfl, _, rfl, r, a, t, p', l', told', far, rfl, R', RA', PA', nlt', ok', fun p'' l'' told'' H9 ok'' e9 R9 RA'' PA'' nlt'' => ?_⟩
        refine ⟨_, rfl, _, rfl, a, t, p'', l'', told'', far, rfl, RA'', PA'', ok'', fun H10 e10 => ⟨_, rfl, itF rfl ?_⟩⟩
        refine ⟨p'', l'', told'', _, rfl, ok'', RA''.ext0 e10, PA''.ext0 e10, nlt'', ?_, R9.ext e10 (by simp)⟩
        refine Ext.trans (Ext.forget eD e9 fun x hx => ?_) (e10.sub (by simp))
        simp only [List.mem_cons, List.not_mem_nil, or_false] at hx
        rcases hx with rfl | rfl
        · exact .inl (by simp)
        · exact .inr ft
      · rintro σ H8 ⟨p', l', told', o, rfl, ok', RA', PA', nlt', eD, R'⟩
        -- another far word
        refine ⟨fun v H' => ∃ far', FarOk far' ∧ v = .str (tx (farT far')) ∧ Ext [r] H8 H' ∧ RngAt H' r, ⟨_, rfl, r, 2, rfl, R', by decide, by decide, fun d H9 d0 d1 e9 R9 => ⟨rfl, _, rfl, it2 (fun c => ?_) (fun c => ?_)⟩⟩, ?_⟩
        · exact ⟨_, rfl, r, rfl, R9, fun A B H10 okp e10 R10 => ⟨.pat A B, okp, rfl, e9.trans e10, R10⟩⟩
        · exact ⟨_, rfl, r, rfl, R9, fun z H10 okz e10 R10 => ⟨.word z, okz, rfl, e9.trans e10, R10⟩⟩
        · rintro v H9 ⟨far', okf, rfl, e9, R9⟩
          have RA9 := RA'.extR R' e9
          obtain ⟨⟨dx, vf, ha, hf⟩, ht⟩ := id RA9
          refine ⟨_, rfl, a, dx, _, rfl, ha, rowF_n8 t vf, _, rfl, far', rfl, okf, fun v H10 e10 hf10 => ?_⟩
          refine ⟨a, t, told', far, far', v, rfl, RA9.ext0 e10, hf10, okf, fun H11 e11 RA11 => ?_⟩
          have PA9 := PA'.extR R' e9
          have PA10 := PA9.ext0 e10
          have ha10 := (RA9.ext0 e10).ob
          obtain ⟨dx10, v10, h10, _⟩ := ha10
          have npa : p' ≠ a := ne_of PA10.tp h10 (by intro z; cases z)
          have nla : l' ≠ a := ne_of PA10.ls h10 (by intro z; cases z)
          have PA11 := PA10.ext e11 (by simpa using npa) (by simpa using nla)
          have ok11 : RowOk told' far' := ⟨ok'.n, ok'.w, okf⟩
          have R10 := R9.ext e10 (by simp)
          have R11 := R10.ext e11 (by simpa using nar.symm)
          refine ⟨_, rfl, _, rfl, p', _, 0, _, rfl, rfl, SqT.of PA11.tp, rfl, _, rfl, (by show 2 ≤ sizeLine; decide), fun y hy => ?_⟩
          have PAy : PlanAt (upd H11 y (.tup [.ref l', .str (tx (farT far'))])) y l' told' far' := ⟨upd_same, by rw [upd_ne (ne_of_none PA11.ls hy)]; exact PA11.ls⟩
          refine ⟨a, t, y, l', told', far', rfl, RA11.ext0 (Ext.new hy), PAy, ok11, fun H12 e12 => ⟨_, rfl, itF rfl ?_⟩⟩
          refine ⟨⟨_, _, _, _, rfl⟩, ?_, (R11.new hy).ext e12 (by simp)⟩
          have eD10 := (eD.trans e9).trans (e10.sub (S := [r]) (by simp))
          refine ((Ext.forget eD10 e11 fun x hx => ?_).trans (Ext.new hy)).trans (e12.sub (by simp))
          cases List.mem_singleton.mp hx
          exact .inr fa
    · rintro σ H4 ⟨⟨o1, o2, o3, o4, rfl⟩, e4, R4⟩
      refine ⟨_, rfl, r, true, rfl, R4, fun p4 l4 told4 far4 H5 ok4 sm4 e5 R5 np4 nl4 PA4 => ?_⟩
      refine ⟨_, rfl, r, false, rfl, R5, fun p5 l5 told5 far5 H6 ok5 sm5 e6 R6 np5 nl5 PA5 => ⟨_, _, rfl, ?_⟩⟩
      refine ⟨_, rfl, p4, l4, told4, far4, rfl, PA4.extR R5 e6, ok4, fun a t H7 e7 na nt RA => ?_⟩
      obtain ⟨⟨dx, v, ha, hf⟩, ht⟩ := id RA
      refine ⟨a, dx, _, rfl, ha, rowF_n5 t v, a, t, told4, far4, rfl, RA, ok4, fun v H8 e8 d8 => ?_⟩
      have s4 : fwd told4 far4 = .none := sm4
      rw [s4] at d8
      cases dat_none.mp d8
      refine ⟨true, rfl, itT rfl ?_⟩
      refine ⟨_, rfl, p5, l5, told5, far5, rfl, (PA5.ext0 e7).ext0 e8, ok5, fun a' t' H9 e9 na' nt' RA' => ?_⟩
      obtain ⟨⟨dx', v', ha', hf'⟩, ht'⟩ := id RA'
      refine ⟨a', dx', _, rfl, ha', rowF_n6 t' v', a', t', told5, far5, rfl, RA', ok5, fun v H10 e10 d10 => ?_⟩
      have s5 : bwd told5 far5 = .none := sm5
      rw [s5] at d10
      cases dat_none.mp d10
      exact q H10 ((((((e0D.trans e4).trans e5).trans e6).trans (e7.sub (by simp))).trans (e8.sub (by simp))).trans ((e9.trans e10).sub (by simp)))
end
end K15
set_option maxHeartbeats 4000000
namespace K15
open PySem PySem.Spec PyProof.Rows L2 Eb
def spTrue : Sp := fun vs H Q _ => vs = [] ∧ ∀ H', Ext [] H H' → Q (.bl true) H'
def spLaw (K : PySem.W.Frag) : Sp := fun vs H Q _ => ∃ (a : Addr) (ns : List Int), vs = [.ref a] ∧ SqL K H a (ns.map V.int) ∧ ns.length ≤ 63 ∧ ∀ H', Q (.bl true) H'
theorem sA : (PySem.Str.ofString "a" : Str) = tx [97] := by decide +kernel
theorem sABC : (PySem.Str.ofString "abc" : Str) = tx [97, 98, 99] := by decide +kernel
theorem sHash : (PySem.Str.ofString "#" : Str) = tx ([] ++ 35 :: []) := by decide +kernel
abbrev tA (n : Nat) : List (List Nat) := List.replicate n [97]
abbrev tABC (n : Nat) : List (List Nat) := List.replicate n [97, 98, 99]
theorem okAll {n : Nat} {l : List Nat} (hn : n ≤ 8) (hl : WOk l) : RowOk (List.replicate n l) (.pat [] []) := ⟨by rw [List.length_replicate]; exact hn, fun z hz => by rw [List.eq_of_mem_replicate hz]; exact hl, ⟨rfl, rfl, by decide⟩⟩
theorem wA : WOk [97] := ⟨by decide, rfl⟩
theorem wABC : WOk [97, 98, 99] := ⟨by decide, rfl⟩
theorem c1 : fwd (tA 8) (.pat [] []) = .none := by kernel_rfl
theorem c2 : bwd (tA 8) (.pat [] []) = tFault "grows" 9 := by kernel_rfl
theorem c3 : bwd [] (.pat [] []) = tFault "grows" 9 := by kernel_rfl
theorem c4 : fwd (tA 7 ++ [[97, 98, 99]]) (.pat [] []) = tFault "jumps" 6 := by kernel_rfl
theorem c5 : bwd (tABC 8) (.pat [] []) = tFault "jumps" 7 := by kernel_rfl
theorem c6 : fwd [] (.word []) = .none := by kernel_rfl
theorem c7 : bwd [] (.word []) = .none := by kernel_rfl
section
variable {P : Program} {w : World} {K : PySem.W.Frag} {mg : Str → Option Value} {base : Heap}
/-- Row(u, Pattern('#')) behind its list -/
theorem rowPat {σ : L2.St} {H : Hp} {u : Addr} {told : List (List Nat)} {Q : Addr → Hp → Prop} (hu : H u = some (.lst (tls told))) (ok : RowOk told (.pat [] [])) (k : ∀ a t H', Ext [] H H' → H a = none → RowAt K H' a t told (.pat [] []) → Q a H') :
    tCons (tMake (cPat K) (spPatInit K) [] C8.E0 (tCons (tC (.str "#")) tNil)) tNil σ H (fun xs H2 => ∀ x dx, H2 x = none → H2 dx = none → dx ≠ x → spRowInit K (.ref x :: ((.ref u :: xs) ++ [])) (upd (upd H2 dx (.own x)) x (.ins (cRow K) dx [])) (fun v H3 => v = .non ∧ Q x H3) C8.E0) := by
  intro x dx nx nd ne
  refine ⟨x, dx, [], [], by rw [sHash]; rfl, upd_same, ⟨rfl, rfl, by decide⟩, fun H1 e1 PA => ⟨rfl, ?_⟩⟩
  have e01 : Ext [] H H1 := Ext.made nx nd e1
  intro y dy ny ndy ney
  have e2 : Ext [] H1 (upd (upd H1 dy (.own y)) y (.ins (cRow K) dy [])) := fun b o _ z => by
    rw [upd_ne (ne_of_none z ny), upd_ne (ne_of_none z ndy)]; exact z
  have hu2 := (e01.trans e2) u _ (by simp) hu
  have far : FarAt K H1 (.pat [] []) (.ref x) := ⟨x, rfl, PA⟩
  refine ⟨y, dy, u, .ref x, told, .pat [] [], rfl, upd_same, .inl ⟨SqL.of hu2, .base (.lst hu2)⟩, far.ext0 e2, ok, fun t H3 nt e3 RA => ⟨rfl, ?_⟩⟩
  exact k y t H3 (e01.trans (Ext.made ny ndy e3)) (Ext.free e01 ny) RA
/-- Row() -/
theorem row0 (T : Tx.TX K mg) {H : Hp} {x dx : Addr} (nx : H x = none) (nd : H dx = none) {Q : VK} {E : XK} (k : ∀ t H', Ext [] H H' → RowAt K H' x t [] (.word []) → Q .non H') : spRowInit K (.ref x :: ([] ++ [.ref (He.dflAt ("Row", some "__init__") 0 K), .str ""])) (upd (upd H dx (.own x)) x (.ins (cRow K) dx [])) Q E := by
  refine ⟨x, dx, _, .str "", [], .word [], rfl, upd_same, .inr ⟨T.e_Row_init_0 _, T.et_Row_init_0 _⟩, by rw [show FarAt K _ (.word []) (V.str (PySem.Str.ofString "")) = (V.str (PySem.Str.ofString "") = V.str (tx [])) from rfl, tx_nil], ⟨by decide, (fun _ h => absurd h List.not_mem_nil), ⟨by decide, rfl⟩⟩, fun t H' nt e' RA => ?_⟩
  exact k t H' (Ext.made nx nd e') RA
theorem ok__law_far_faults_right (T : Tx.TX K mg) : CalG P w K mg base 8 "_law_far_faults_right" (spTrue) := by
  refine calG (k := 7) T.d__law_far_faults_right T.g__law_far_faults_right Tx.sc__law_far_faults_right (fun _ _ _ _ _ _ us hl => match us, hl with | [], _ => rfl) ?len ?run
  case len => rintro vs H Q E ⟨rfl, _⟩; rfl
  case run =>
    rintro cdv A' outer s H vs Q E hgd hr ⟨rfl, q⟩
    refine ⟨_, by exact (pss_cons (ps_set (i := 0) Tx.sc__law_far_faults_right.nd rfl (Or.inl rfl) (C8.pe_mk (ok_Row_init T) hr (by decide) rfl (pa_cons (pe_op op_rep (pe_lst (pa_cons pe_str pa_nil)) pe_int) (pa_cons (C8.pe_mk (ok_Pattern_init T) hr (by decide) rfl (pa_cons pe_str pa_nil)) pa_nil)))) (pss_cons (ps_set (i := 1) Tx.sc__law_far_faults_right.nd rfl (Or.inl rfl) (pe_lst (pa_cons (C8.pe_mt0 (ok_Row_forward_fault T) hr (by decide) (pv 0)) (pa_cons (C8.pe_mt0 (ok_Row_backward_fault T) hr (by decide) (pv 0)) (pa_cons (C8.pe_mt0 (ok_Row_backward_fault T) hr (by decide) (C8.pe_mk (ok_Row_init T) hr (by decide) rfl (pa_cons (pe_lst pa_nil) (pa_cons (C8.pe_mk (ok_Pattern_init T) hr (by decide) rfl (pa_cons pe_str pa_nil)) pa_nil)))) pa_nil))))) (pss_cons (ps_set (i := 2) Tx.sc__law_far_faults_right.nd rfl (Or.inl rfl) (C8.pe_mt0 (ok_Row_forward_fault T) hr (by decide) (C8.pe_mk (ok_Row_init T) hr (by decide) rfl (pa_cons (pe_op op_cat (pe_op op_rep (pe_lst (pa_cons pe_str pa_nil)) pe_int) (pe_lst (pa_cons pe_str pa_nil))) (pa_cons (C8.pe_mk (ok_Pattern_init T) hr (by decide) rfl (pa_cons pe_str pa_nil)) pa_nil))))) (pss_cons (ps_set (i := 3) Tx.sc__law_far_faults_right.nd rfl (Or.inl rfl) (C8.pe_mt0 (ok_Row_backward_fault T) hr (by decide) (C8.pe_mk (ok_Row_init T) hr (by decide) rfl (pa_cons (pe_op op_rep (pe_lst (pa_cons pe_str pa_nil)) pe_int) (pa_cons (C8.pe_mk (ok_Pattern_init T) hr (by decide) rfl (pa_cons pe_str pa_nil)) pa_nil))))) (pss_cons (ps_set (i := 4) Tx.sc__law_far_faults_right.nd rfl (Or.inl rfl) (pe_lst (pa_cons pe_non (pa_cons (pe_tup (pa_cons pe_str (pa_cons pe_int pa_nil))) (pa_cons (pe_tup (pa_cons pe_str (pa_cons pe_int pa_nil))) (pa_cons (pe_tup (pa_cons pe_str (pa_cons pe_int pa_nil))) (pa_cons (pe_tup (pa_cons pe_str (pa_cons pe_int pa_nil))) pa_nil))))))) (pss_one (ps_ret (pe_and (pe_cmpR op_eq (pe_callB (call_reprD hgd hr) (by rfl) T.b_repr (by decide +kernel) (pa_cons (pe_op op_cat (pv 1) (pe_lst (pa_cons (pv 2) (pa_cons (pv 3) pa_nil)))) pa_nil)) (pe_callB (call_reprD hgd hr) (by rfl) T.b_repr (by decide +kernel) (pa_cons (pv 4) pa_nil)) (nomark _)) (pe_and (pe_cmp (pc_isN (C8.pe_mt0 (ok_Row_forward_fault T) hr (by decide) (pe_mk0 (ok_Row_init0 T) hr (by decide) rfl))) rfl) (pe_one (pe_cmp (pc_isN (C8.pe_mt0 (ok_Row_backward_fault T) hr (by decide) (pe_mk0 (ok_Row_init0 T) hr (by decide) rfl))) rfl))))))))))), ?_⟩
    -- row
    refine ⟨(by show 1 ≤ sizeLine; decide), fun p1 n1 => ⟨p1, 8, _, rfl, rfl, upd_same, by decide, by decide, (by show 1 * 8 ≤ sizeLine; decide), fun p2 n2 => ?_⟩⟩
    have h2 : (upd (upd H p1 (.lst [V.str (PySem.Str.ofString "a")])) p2 (.lst (List.replicate (8 : Int).toNat [V.str (PySem.Str.ofString "a")]).flatten)) p2 = some (.lst (tls (tA 8))) := by rw [upd_same, sA]; rfl
    have e2 : Ext [] H (upd (upd H p1 (.lst [V.str (PySem.Str.ofString "a")])) p2 (.lst (List.replicate (8 : Int).toNat [V.str (PySem.Str.ofString "a")]).flatten)) := (Ext.new n1).trans (Ext.new n2)
    generalize (upd (upd H p1 (.lst [V.str (PySem.Str.ofString "a")])) p2 (.lst (List.replicate (8 : Int).toNat [V.str (PySem.Str.ofString "a")]).flatten)) = H2 at h2 e2 ⊢
    refine rowPat h2 (okAll (by decide) wA) fun a t H3 e3 na RA => ?_
    obtain ⟨⟨dx, v, ha, hf⟩, ht⟩ := id RA
    -- told
    refine ⟨_, rfl, a, dx, _, rfl, ha, rowF_n5 t v, a, t, _, _, rfl, RA, okAll (by decide) wA, fun v1 H4 e4 d1 => ?_⟩
    rw [c1] at d1
    have RA4 := RA.ext0 e4
    obtain ⟨⟨dx4, v4, ha4, hf4⟩, ht4⟩ := id RA4
    refine ⟨_, rfl, a, dx4, _, rfl, ha4, rowF_n6 t v4, a, t, _, _, rfl, RA4, okAll (by decide) wA, fun v2 H5 e5 d2 => ?_⟩
    rw [c2] at d2
    refine ⟨(by show 0 ≤ sizeLine; decide), fun p3 n3 => ?_⟩
    have h3 : (upd H5 p3 (.lst [])) p3 = some (.lst (tls [])) := upd_same
    have e6 : Ext [] H5 (upd H5 p3 (.lst [])) := Ext.new n3
    generalize (upd H5 p3 (.lst [])) = H6 at h3 e6 ⊢
    refine rowPat h3 (okAll (n := 0) (by decide) wA) fun b u H7 e7 nb RB => ?_
    obtain ⟨⟨dy, vb, hb, hfb⟩, htb⟩ := id RB
    refine ⟨b, dy, _, rfl, hb, rowF_n6 u vb, b, u, _, _, rfl, RB, okAll (n := 0) (by decide) wA, fun v3 H8 e8 d3 => ?_⟩
    rw [c3] at d3
    refine ⟨(by show 3 ≤ sizeLine; decide), fun TT nTT => ?_⟩
    have dT : Dats [] (upd H8 TT (.lst [v1, v2, v3])) [.none, tFault "grows" 9, tFault "grows" 9] [v1, v2, v3] := by
      refine dats_cons.mpr ⟨_, _, rfl, (d1.ext (((e5.trans e6).trans e7).trans e8)).ext (Ext.new nTT), dats_cons.mpr ⟨_, _, rfl, (d2.ext ((e6.trans e7).trans e8)).ext (Ext.new nTT), dats_cons.mpr ⟨_, _, rfl, d3.ext (Ext.new nTT), dats_nil.mpr rfl⟩⟩⟩
    have hT9 : (upd H8 TT (.lst [v1, v2, v3])) TT = some (.lst [v1, v2, v3]) := upd_same
    have e39 : Ext [] H2 (upd H8 TT (.lst [v1, v2, v3])) := (((((e3.trans e4).trans e5).trans e6).trans e7).trans e8).trans (Ext.new nTT)
    generalize (upd H8 TT (.lst [v1, v2, v3])) = H9 at dT hT9 e39 ⊢
    -- wide
    refine ⟨(by show 1 ≤ sizeLine; decide), fun q1 m1 => ⟨q1, 7, _, rfl, rfl, upd_same, by decide, by decide, (by show 1 * 7 ≤ sizeLine; decide), fun q2 m2 => ⟨(by show 1 ≤ sizeLine; decide), fun q3 m3 => ?_⟩⟩⟩
    have x23 : q2 ≠ q3 := ne_of_none upd_same m3
    refine ⟨q2, q3, _, _, rfl, rfl, (by rw [upd_ne x23]; exact upd_same), upd_same, (by show 7 + 1 ≤ sizeLine; decide), fun q4 m4 => ?_⟩
    have ew : Ext [] H9 (upd (upd (upd (upd H9 q1 (.lst [V.str (PySem.Str.ofString "a")])) q2 (.lst (List.replicate (7 : Int).toNat [V.str (PySem.Str.ofString "a")]).flatten)) q3 (.lst [V.str (PySem.Str.ofString "abc")])) q4 (.lst ((List.replicate (7 : Int).toNat [V.str (PySem.Str.ofString "a")]).flatten ++ [V.str (PySem.Str.ofString "abc")]))) := (((Ext.new m1).trans (Ext.new m2)).trans (Ext.new m3)).trans (Ext.new m4)
    have hw : (upd (upd (upd (upd H9 q1 (.lst [V.str (PySem.Str.ofString "a")])) q2 (.lst (List.replicate (7 : Int).toNat [V.str (PySem.Str.ofString "a")]).flatten)) q3 (.lst [V.str (PySem.Str.ofString "abc")])) q4 (.lst ((List.replicate (7 : Int).toNat [V.str (PySem.Str.ofString "a")]).flatten ++ [V.str (PySem.Str.ofString "abc")]))) q4 = some (.lst (tls (tA 7 ++ [[97, 98, 99]]))) := by rw [upd_same, sA, sABC]; rfl
    generalize (upd (upd (upd (upd H9 q1 (.lst [V.str (PySem.Str.ofString "a")])) q2 (.lst (List.replicate (7 : Int).toNat [V.str (PySem.Str.ofString "a")]).flatten)) q3 (.lst [V.str (PySem.Str.ofString "abc")])) q4 (.lst ((List.replicate (7 : Int).toNat [V.str (PySem.Str.ofString "a")]).flatten ++ [V.str (PySem.Str.ofString "abc")]))) = H10 at ew hw ⊢
    have okw : RowOk (tA 7 ++ [[97, 98, 99]]) (.pat [] []) := ⟨by decide, fun z hz => by
      rcases List.mem_append.mp hz with hz | hz
      · rw [List.eq_of_mem_replicate hz]; exact wA
      · rw [List.mem_singleton.mp hz]; exact wABC, ⟨rfl, rfl, by decide⟩⟩
    refine rowPat hw okw fun c y H11 e11 nc RC => ?_
    obtain ⟨⟨dz, vc, hc, hfc⟩, htc⟩ := id RC
    refine ⟨c, dz, _, rfl, hc, rowF_n5 y vc, c, y, _, _, rfl, RC, okw, fun v4' H12 e12 d4 => ?_⟩
    rw [c4] at d4
    -- thin
    refine ⟨(by show 1 ≤ sizeLine; decide), fun z1 k1 => ⟨z1, 8, _, rfl, rfl, upd_same, by decide, by decide, (by show 1 * 8 ≤ sizeLine; decide), fun z2 k2 => ?_⟩⟩
    have h13 : (upd (upd H12 z1 (.lst [V.str (PySem.Str.ofString "abc")])) z2 (.lst (List.replicate (8 : Int).toNat [V.str (PySem.Str.ofString "abc")]).flatten)) z2 = some (.lst (tls (tABC 8))) := by rw [upd_same, sABC]; rfl
    have e13 : Ext [] H12 (upd (upd H12 z1 (.lst [V.str (PySem.Str.ofString "abc")])) z2 (.lst (List.replicate (8 : Int).toNat [V.str (PySem.Str.ofString "abc")]).flatten)) := (Ext.new k1).trans (Ext.new k2)
    generalize (upd (upd H12 z1 (.lst [V.str (PySem.Str.ofString "abc")])) z2 (.lst (List.replicate (8 : Int).toNat [V.str (PySem.Str.ofString "abc")]).flatten)) = H13 at h13 e13 ⊢
    refine rowPat h13 (okAll (by decide) wABC) fun d y' H14 e14 nd' RD => ?_
    obtain ⟨⟨dw, vd, hd, hfd⟩, htd⟩ := id RD
    refine ⟨d, dw, _, rfl, hd, rowF_n6 y' vd, d, y', _, _, rfl, RD, okAll (by decide) wABC, fun v5 H15 e15 d5 => ?_⟩
    rw [c5] at d5
    -- due
    refine ⟨(by show 2 ≤ sizeLine; decide), fun t1 u1 => ?_⟩
    have f1 : Dat [] (upd H15 t1 (.tup [.str (PySem.Str.ofString "grows"), .int 9])) (tFault "grows" 9) (.ref t1) := dat_fault (d := 9) u1
    have x1 : Ext [] H15 (upd H15 t1 (.tup [.str (PySem.Str.ofString "grows"), .int 9])) := Ext.new u1
    generalize (upd H15 t1 (.tup [.str (PySem.Str.ofString "grows"), .int 9])) = G1 at f1 x1 ⊢
    refine ⟨(by show 2 ≤ sizeLine; decide), fun t2 u2 => ?_⟩
    have f2 : Dat [] (upd G1 t2 (.tup [.str (PySem.Str.ofString "grows"), .int 9])) (tFault "grows" 9) (.ref t2) := dat_fault (d := 9) u2
    have x2 : Ext [] G1 (upd G1 t2 (.tup [.str (PySem.Str.ofString "grows"), .int 9])) := Ext.new u2
    generalize (upd G1 t2 (.tup [.str (PySem.Str.ofString "grows"), .int 9])) = G2 at f2 x2 ⊢
    refine ⟨(by show 2 ≤ sizeLine; decide), fun t3 u3 => ?_⟩
    have f3 : Dat [] (upd G2 t3 (.tup [.str (PySem.Str.ofString "jumps"), .int 6])) (tFault "jumps" 6) (.ref t3) := dat_fault (d := 6) u3
    have x3 : Ext [] G2 (upd G2 t3 (.tup [.str (PySem.Str.ofString "jumps"), .int 6])) := Ext.new u3
    generalize (upd G2 t3 (.tup [.str (PySem.Str.ofString "jumps"), .int 6])) = G3 at f3 x3 ⊢
    refine ⟨(by show 2 ≤ sizeLine; decide), fun t4 u4 => ?_⟩
    have f4 : Dat [] (upd G3 t4 (.tup [.str (PySem.Str.ofString "jumps"), .int 7])) (tFault "jumps" 7) (.ref t4) := dat_fault (d := 7) u4
    have x4 : Ext [] G3 (upd G3 t4 (.tup [.str (PySem.Str.ofString "jumps"), .int 7])) := Ext.new u4
    generalize (upd G3 t4 (.tup [.str (PySem.Str.ofString "jumps"), .int 7])) = G4 at f4 x4 ⊢
    refine ⟨(by show 5 ≤ sizeLine; decide), fun DU nDU => ?_⟩
    have x15 : Ext [] H9 H15 := ((((ew.trans e11).trans e12).trans e13).trans e14).trans e15
    have xG : Ext [] H15 G4 := ((x1.trans x2).trans x3).trans x4
    have dDU : Dat [] (upd G4 DU (.lst [.non, .ref t1, .ref t2, .ref t3, .ref t4])) (.list [.none, tFault "grows" 9, tFault "grows" 9, tFault "jumps" 6, tFault "jumps" 7]) (.ref DU) := by
      refine dat_list.mpr ⟨DU, _, rfl, by simp, upd_same, ?_⟩
      exact dats_cons.mpr ⟨_, _, rfl, dat_none.mpr rfl, dats_cons.mpr ⟨_, _, rfl, (f1.ext ((x2.trans x3).trans x4)).ext (Ext.new nDU), dats_cons.mpr ⟨_, _, rfl, (f2.ext (x3.trans x4)).ext (Ext.new nDU), dats_cons.mpr ⟨_, _, rfl, (f3.ext x4).ext (Ext.new nDU), dats_cons.mpr ⟨_, _, rfl, f4.ext (Ext.new nDU), dats_nil.mpr rfl⟩⟩⟩⟩⟩
    have xD : Ext [] H9 (upd G4 DU (.lst [.non, .ref t1, .ref t2, .ref t3, .ref t4])) := (x15.trans xG).trans (Ext.new nDU)
    have d4' : Dat [] (upd G4 DU (.lst [.non, .ref t1, .ref t2, .ref t3, .ref t4])) (tFault "jumps" 6) v4' := ((d4.ext ((e13.trans e14).trans e15)).ext xG).ext (Ext.new nDU)
    have d5' : Dat [] (upd G4 DU (.lst [.non, .ref t1, .ref t2, .ref t3, .ref t4])) (tFault "jumps" 7) v5 := (d5.ext xG).ext (Ext.new nDU)
    generalize (upd G4 DU (.lst [.non, .ref t1, .ref t2, .ref t3, .ref t4])) = G5 at dDU xD d4' d5' ⊢
    have dT5 := dT.ext xD
    have hT5 := xD TT _ (by simp) hT9
    -- repr(told + [wide, thin]) == repr(due)
    refine ⟨_, rfl, _, rfl, _, rfl, (by show 2 ≤ sizeLine; decide), fun y1 j1 => ?_⟩
    have nTy : TT ≠ y1 := ne_of_none hT5 j1
    refine ⟨TT, y1, _, _, rfl, rfl, (by rw [upd_ne nTy]; exact hT5), upd_same, (by show 3 + 2 ≤ sizeLine; decide), fun y2 j2 => ?_⟩
    have xy : Ext [] G5 (upd (upd G5 y1 (.lst [v4', v5])) y2 (.lst ([v1, v2, v3] ++ [v4', v5]))) := (Ext.new j1).trans (Ext.new j2)
    have dY : Dat [] (upd (upd G5 y1 (.lst [v4', v5])) y2 (.lst ([v1, v2, v3] ++ [v4', v5]))) (.list [.none, tFault "grows" 9, tFault "grows" 9, tFault "jumps" 6, tFault "jumps" 7]) (.ref y2) := by
      refine dat_list.mpr ⟨y2, _, rfl, by simp, upd_same, ?_⟩
      obtain ⟨a1, r1, z1, b1, s1⟩ := dats_cons.mp (dT5.ext xy)
      obtain ⟨a2, r2, z2, b2, s2⟩ := dats_cons.mp s1
      obtain ⟨a3, r3, z3, b3, s3⟩ := dats_cons.mp s2
      cases z1; cases z2; cases z3
      exact dats_cons.mpr ⟨_, _, rfl, b1, dats_cons.mpr ⟨_, _, rfl, b2, dats_cons.mpr ⟨_, _, rfl, b3, dats_cons.mpr ⟨_, _, rfl, d4'.ext xy, dats_cons.mpr ⟨_, _, rfl, d5'.ext xy, dats_nil.mpr rfl⟩⟩⟩⟩⟩
    generalize (upd (upd G5 y1 (.lst [v4', v5])) y2 (.lst ([v1, v2, v3] ++ [v4', v5]))) = G6 at xy dY ⊢
    have g9 : Flt1 (tFault "grows" 9) := .inr ⟨_, 9, rfl, by decide +kernel, by decide, by decide +kernel⟩
    have j6 : Flt1 (tFault "jumps" 6) := .inr ⟨_, 6, rfl, by decide +kernel, by decide, by decide +kernel⟩
    have j7 : Flt1 (tFault "jumps" 7) := .inr ⟨_, 7, rfl, by decide +kernel, by decide, by decide +kernel⟩
    have sw : Showy (.list [.none, tFault "grows" 9, tFault "grows" 9, tFault "jumps" 6, tFault "jumps" 7]) := (sh_list (sha_cons (sh_flt (.inl rfl)) (sha_cons (sh_flt g9) (sha_cons (sh_flt g9) (sha_cons (sh_flt j6) (sha_cons (sh_flt j7) sha_nil)))))).showy (by decide +kernel) (by decide)
    refine ⟨y2, [], _, rfl, dY, sw, _, rfl, DU, [], _, rfl, dDU.ext xy, sw, rfl, _, rfl, itT (by simp) ?_⟩
    intro a da nxa nda nea
    refine row0 T nxa nda fun t H' e' RA' => ⟨rfl, ?_⟩
    obtain ⟨⟨dx', v', ha', hf'⟩, ht'⟩ := id RA'
    have ok0 : RowOk [] (.word []) := ⟨by decide, (fun _ h => absurd h List.not_mem_nil), ⟨by decide, rfl⟩⟩
    refine ⟨a, dx', _, rfl, ha', rowF_n5 t v', a, t, _, _, rfl, RA', ok0, fun w1 H'' e'' dw1 => ?_⟩
    rw [c6] at dw1
    cases dat_none.mp dw1
    refine ⟨true, rfl, itT rfl ?_⟩
    intro a2 da2 nxa2 nda2 nea2
    refine row0 T nxa2 nda2 fun t2' H3' e3' RA2 => ⟨rfl, ?_⟩
    obtain ⟨⟨dx2, v2', ha2, hf2⟩, ht2⟩ := id RA2
    refine ⟨a2, dx2, _, rfl, ha2, rowF_n6 t2' v2', a2, t2', _, _, rfl, RA2, ok0, fun w2 H4' e4' dw2 => ?_⟩
    rw [c7] at dw2
    cases dat_none.mp dw2
    exact q H4' (((((((e2.trans e39).trans xD).trans xy).trans e').trans e'').trans e3').trans e4')
theorem by_law (T : Tx.TX K mg) {f : Addr} : ByG P w K mg base 9 f Tx.N_law "law" (defBody Tx.s_law) (defScope Tx.s_law) (spLaw K) := by
    rintro cdv A' outer s H vs Q E hgd hr ⟨a, ns, rfl, hS, hn, q⟩
    refine ⟨_, by exact (pss_cons (ps_if (pt_not (pt_val (pe_g0 (ok__law_far_faults_right T) hgd hr (by decide) rfl))) (pss_one (ps_ret pe_bl)) pss_nil) (pss_one (ps_ret (pe_callB (cr_all rfl) (by rfl) T.b_all (by decide +kernel) (pa_cons (pe_lc (own := [("_law_k", 1)]) (g := gName 1) (tt := tYes) rfl Tx.sc_law.nd (pi_range1 (by rfl) T.b_range (pa_cons (pe_callB (call_max2 rfl) (by rfl) T.b_max (by decide +kernel) (pa_cons pe_int (pa_cons (pe_callB (call_min2 rfl) (by rfl) T.b_min (by decide +kernel) (pa_cons pe_int (pa_cons (pe_callB call_len_seq (by rfl) T.b_len (by decide +kernel) (pa_cons (pv 0) pa_nil)) pa_nil))) pa_nil))) pa_nil)) (blkOk_by (own := [("_law_k", 1)]) (N := Tx.N_law) (sc := defScope Tx.s_law) (by decide +kernel)) (fun _ _ _ _ _ => (pg_name (i := 1) Tx.sc_law.nd rfl (Or.inl rfl))) (fun _ _ _ _ _ => pts_nil) (fun _ _ _ _ _ => (pe_g (ok__law_right T) hgd hr (by decide) rfl (pa_cons (C8.pe_c (ok__law_rng T) hr (by decide) rfl (pa_cons (pv 0) (pa_cons (pv 1) pa_nil))) pa_nil)))) pa_nil))))), ?_⟩
    refine ⟨rfl, fun H1 e1 => ⟨_, rfl, itF rfl ?_⟩⟩
    have hS1 := sqL_up e1 hS
    have el : (ns.map V.int).length = ns.length := List.length_map _
    refine ⟨_, rfl, a, _, rfl, .inl hS1, _, _, rfl, _, _, rfl, _, rfl, ?_, ?_, fun D hD => ?_⟩
    · split <;> (try split) <;> omega
    · split <;> (try split) <;> omega
    · refine lc_it walk_range (fun i H' => H' D = some (.lst ((List.replicate i true).map V.bl)) ∧ Ext [] H1 H') ⟨upd_same, Ext.new hD⟩ (fun _ _ _ _ => trivial) ?_ ?_
      · rintro i x H2' H2 hi ⟨g1, g2⟩ ⟨rfl, rfl⟩
        have hi5 : i < 64 := by
          revert hi
          split <;> (try split) <;> omega
        refine ⟨rfl, _, rfl, _, rfl, a, ns, i, (by show [V.ref a, V.int (0 + (i : Int))] = _; rw [Int.zero_add]), sqL_up g2 hS1, by omega, by omega, fun r H3 nr e3 R3 => ?_⟩
        refine ⟨r, rfl, R3, fun H4 e4 => ?_⟩
        have e24 : Ext [] H2 H4 := Ext.forget (Ext.of e3) e4 fun x hx => by cases List.mem_singleton.mp hx; exact .inr nr
        refine ⟨_, e24 D _ (by simp) g1, ?_, ?_, Ext.mut (g2.trans e24) hD⟩
        · rw [List.length_map, List.length_replicate]
          exact Nat.lt_of_lt_of_le (show i < 1000 by omega) (by decide)
        · rw [upd_same, List.replicate_succ', List.map_append]; rfl
      · rintro H2 ⟨g1, g2⟩
        refine ⟨D, _, rfl, SqL.of g1, ?_⟩
        have : ∀ n, (List.replicate n true).all id = true := fun n => List.all_eq_true.mpr fun b hb => by rw [List.eq_of_mem_replicate hb]; rfl
        rw [this]
        exact q H2
end
end K15
set_option maxHeartbeats 0
open PySem PySem.W PySem.Calls PyProof.Rows
theorem PySem.Challenge.cw_everysettles_k15_whole_faults_of_rows_holds : PySem.Challenge.rw_everysettles_k15_whole_faults_of_rows.Holds := by
  w_on; o_law
  refine HandSHeadRun.head_any (r := Hd.R) (q := view Hd.R.prog [47]) (H := Hd.hk) (ob := Hd.ob) (M := 20000) (loose := Hd.loose) (d := HandSHeadRun.topDef Hd.R.prog 47) (kwd := []) Hd.ob_eq
    (by kernel_rfl) (fun s => by kernel_rfl) Hd.run (by kernel_rfl) (by kernel_rfl) (by kernel_rfl) (by rfl) (by first | assumption | decide +kernel) (by decide +kernel) ⟨rfl, rfl, rfl, rfl, rfl, by decide +kernel⟩ ?hw ?hc
  case hw => w_witness2
  case hc =>
    refine Eb.walkG (l := PySem.Challenge.rw_everysettles_k15_whole_faults_of_rows) (n := 63) (k := 10) (x := "_law_script") rfl (by decide) (by kernel_rfl) ⟨rfl, by decide, by decide⟩ ?F
    intro w mg fa h Y G hmg0
    obtain ⟨K, KX, c⟩ := Y
    have hmg : mg ("law" : PySem.Str) = some (.ref fa) := by
      have e : (HandSHeadRun.topDef Hd.R.prog 47).name = ("law" : PySem.Str) := by kernel_rfl
      rw [← e]
      exact hmg0
    have T := Tx.tx_of KX G c
    obtain ⟨fd, F⟩ := T.d_law
    cases hmg.symm.trans T.g_law
    have b := L2.FunD.bindsA (ps := ["_law_script"]) F fun _ _ _ _ _ _ us hl => match us, hl with | [_], _ => rfl
    refine ⟨K, fd, K15.spLaw K, KX, fun s v => b s [v] rfl, fun H a ns hl _ _ hS => ⟨a, ns, rfl, hS, hl, fun _ => rfl⟩, fun base => Eb.okG F Tx.sc_law ?_ (K15.by_law T)⟩
    rintro vs H Q E ⟨a, ns, rfl, _⟩
    rfl
