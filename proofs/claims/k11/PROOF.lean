import PyProof.Rows.All
import Wide.All
import OpenK.AllK
import Wide.FinOn
import HandS.ForMost
import HandS.WideBits
import HandS.EndBits
import HandS.Defaults
import HandS.MakeKw
import HandS.Property
import HandS.IsInst
import HandS.Codes
import HandS.Flow
import HandS.RaiseMore
import HandS.Head0
import HandS.Head1
import HandS.Head2
import HandS.HeadEnd
import HandS.HeadHook1
import HandS.HeadHook2
import HandS.Walk
import HandS.Style
import KE.GoesMore
import KE.GoesEnum
import KE.KOpsOwn
import HandS.OwnEq
import HandS.Conv
import PyProof.InstNe
import HandS.Lambda
import HandS.EndTab
import HandS.TryMany
import HandS.ExcInit
import HandS.ExcField
import KE.KNestM
import HandS.ExcOwn
import HandS.CallSlots
import HandS.Exc
import HandS.TupLe
import HandS.More
import HandS.Replace
import HandS.ReplaceList
import PyProof.ToksMono
import HandS.ReplaceLit
import HandS.ClsMeth
import HandS.Text
import KE.KCallOwn
import PyProof.Rows.StrFromFirst
import HandS.DictEq
import KE.LtData
import HandS.HeadNt
import KE.KExcIs
import PyProof.NeKinds
import HandS.TupMul
import KE.KExcInit
import HandS.TryOnly
import PySem.Challenge.RW_everysettles_k11_words_and_patterns
set_option Elab.async false
set_option linter.all false
set_option maxRecDepth 100000
set_option maxHeartbeats 4000000
namespace Eb
open PySem PySem.Spec PyProof.Rows L2

/-! ## a def's promise where nothing is being shown (no repr runs around) -/
structure FnG (P : Program) (w : World) (K : PySem.W.Frag) (mg : Str → Option Value) (base : Heap) (k : Nat) (f : Addr) (fd : FuncData) (ps : List Str) (sp : Sp) : Prop where
  len : ∀ vs H Q E, sp vs H Q E → vs.length = ps.length
  run : ∀ (A : Around) (outer : List Env) (s : Shared) (H : Hp) (args : Args) (us : List Value) (vs : List V) (Q : VK) (E : XK),
    A.guards = some [] → Room k A → Env0 P w K mg base A outer s H → BindsTo s fd args (ps.zip us) → Vals vs us → sp vs H Q E →
      codeAny (model P w) A (.call (.ref f) args) (CR CX0 outer P w H s Q E) s
section
variable {P : Program} {w : World} {K : PySem.W.Frag} {mg : Str → Option Value} {base : Heap} {k : Nat} {f : Addr} {fd : FuncData} {ps : List Str} {sp : Sp}
theorem FnG.of (F : FnOk P w K mg base CX0 k f fd ps sp) : FnG P w K mg base k f fd ps sp :=
  ⟨F.len, fun A o s H a us vs Q E _ => F.run A o s H a us vs Q E⟩
/-- by the body -/
theorem okG {x qual : Str} {params : Arguments} {body : List Stmt} {scope : Scope} {dvs : List V} {kws : List (Str × V)} {N : List Str}
    (F : FunD K x qual params body scope dvs kws f fd) (S : FnScope N ps scope) (len : ∀ vs H Q E, sp vs H Q E → vs.length = ps.length)
    (hb : ∀ (cdv : Value) (A : Around) (outer : List Env) (s : Shared) (H : Hp) (vs : List V) (Q : VK) (E : XK),
      (A.deeper (envOfC qual scope s.heap.objs.size f cdv)).guards = some [] → Room k (A.deeper (envOfC qual scope s.heap.objs.size f cdv)) → sp vs H Q E →
      ∃ t, PSs (cxOf CX0 P w K mg base N qual scope f cdv A outer s H E).nox body t ∧ t { nx := fun _ H' => Q .non H', rt := Q } (start N vs) H) :
    FnG P w K mg base (k + 1) f fd ps sp := by
  refine ⟨len, fun A outer s H args us vs Q E hg hr e0 hbd r hsp => ?_⟩
  obtain ⟨oc, od, dV, kV, doc, pm, an, cdv, ct, osl, rfl, lk, hcd, _, _⟩ := F.ex
  have hl := len _ _ _ _ hsp
  have KX : K.In s.heap := e0.mod.kin.keeps fun b o e => (e0.bs b o e).1
  have lim : s.heap.NoLimit := e0.mod.nolimit.keeps fun b o e => (e0.bs b o e).1
  refine codeAny_call_function hr.depth (KX _ _ lk) rfl S.co S.gen rfl (PySem.W.codeRec_of KX hcd) (hbd _ _ _ _ ?_)
  refine wpAny_newFunctionEnv_cells S.kind (fun q hq => ?_) fun env he s1 x => ?_
  · obtain ⟨n, v⟩ := q
    rcases S.par n (List.of_mem_zip hq).1 with z | z
    · exact .inl z
    · exact .inr ⟨z, PySem.W.cellsFrom_some _ _ _ (.inl z)⟩
  · subst he
    refine ⟨lim.keeps x.toInCall.keep, codeAny_func ?_⟩
    obtain ⟨t, ht, hq⟩ := hb cdv A outer s H vs Q E hg (hr.deeper _) hsp
    have I : Inv (cxOf CX0 P w K mg base N qual scope f cdv A outer s H E) [] (start N vs) H s1 := inv_start S hr.hd e0 hl r x
    refine wpAny_mono (ht.nox.run [] s1 (start N vs) H _ I hq) (fun fl s' hs => ?_) fun e s' hs => hs
    cases fl with
    | ret u => obtain ⟨v, σ', H', J, rv, q⟩ := hs; exact ⟨v, H', J.os, J.bare, J.base, J.hok, rv, q⟩
    | next => obtain ⟨σ', H', J, q⟩ := hs; exact ⟨V.non, H', J.os, J.bare, J.base, J.hok, rfl, q⟩
    | brk => obtain ⟨_, _, _, q⟩ := hs; exact False.elim q
    | cont => obtain ⟨_, _, _, q⟩ := hs; exact False.elim q
end
section
variable {X : Cx} {k : Nat} {f : Addr} {fd : FuncData} {ps : List Str} {sp : Sp} {dvs : List V} {ds : List Value} {x : Str} {p pos : Pos} {e : Expr} {es : List Expr} {t : TA}
theorem runG {pins : List (Addr × Obj)} {σ : L2.St} {H : Hp} {s : Shared} {Q : VK} {us : List Value} {vs : List V} (F : FnG X.prog X.w X.K X.mg X.base k f fd ps sp) (g : X.A.guards = some []) (hr : Room k X.A) (hb : Binds X.K fd ps ds) (hd : Vals dvs ds)
    (I : Inv X pins σ H s) (r : Vals vs us) (h : sp (vs ++ dvs) H Q E0) : wpAny (model X.prog X.w) X.A (call (.ref f) us) (EP X pins σ Q) X.xe s := by
  have r2 : Vals (vs ++ dvs) (us ++ ds) := r.append hd
  have hl : (us ++ ds).length = ps.length := r2.length ▸ F.len _ _ _ _ h
  refine wpAny_call (codeAny_mono (F.run X.A X.stack s H ⟨us, []⟩ (us ++ ds) (vs ++ dvs) Q E0 g hr I.env0 (hb s us I.kIn hl) r2 h) fun r s' hq => ?_)
  cases r with
  | error e => exact False.elim hq
  | ok fl => cases fl <;> first | exact I.after hq | exact False.elim hq
/-- f(..) by its promise, nothing being shown -/
theorem pe_callG (F : FnG X.prog X.w X.K X.mg X.base k f fd ps sp) (g : X.A.guards = some []) (hr : Room k X.A) (hg : Gl X x) (hm : X.mg x = some (.ref f)) (hk : PySem.W.keepIn X.K (.ref f) = true) (hb : Binds X.K fd ps ds) (hd : Vals dvs ds)
    (ha : PA X (e :: es) t) (hdb : (x == ("__debug__" : Str)) = false := by decide) (he : starEach (e :: es) X.env = (false, eval e X.env) :: starEach es X.env := by rfl) (hpl : (backTo pos (starEach es X.env)).any (·.1) = false := by rfl) :
    PE X (.Call (.Name x p) (e :: es) [] pos) (tCall sp dvs E0 t) := by
  refine ⟨fun pins s σ H Q I h => wpAny_Call_Name_kw (ld_glob I hg hm ?_ hdb)⟩
  exact PySem.W.callWith_K (h₀ := X.base) I.ok.mod.kin hk (thn (ha.run pos pins s σ H _ I h) fun us s1 ⟨vs, H1, I1, r, q⟩ => ⟨I1.kIn, runG F g hr hb hd I1 r q⟩) he hpl
/-- f() likewise -/
theorem pe_callG0 (F : FnG X.prog X.w X.K X.mg X.base k f fd ps sp) (g : X.A.guards = some []) (hr : Room k X.A) (hg : Gl X x) (hm : X.mg x = some (.ref f)) (hk : PySem.W.keepIn X.K (.ref f) = true) (hb : Binds X.K fd ps ds) (hd : Vals dvs ds)
    (hdb : (x == ("__debug__" : Str)) = false := by decide) : PE X (.Call (.Name x p) [] [] pos) (tCall sp dvs E0 tNil) :=
  ⟨fun pins s σ H Q I h => wpAny_Call_Name_kw (ld_glob I hg hm (PySem.W.callWith_K0 I.kIn hk (runG (us := []) F g hr hb hd I .nil h)) hdb)⟩
end
end Eb
set_option maxHeartbeats 4000000
namespace Eb
open PySem PySem.Spec PyProof.Rows L2

/-! ## plain data on the heap: the addresses in R are not among its own -/
mutual
def Dat (R : List Addr) (H : Hp) : PyData → V → Prop
  | .none, v => v = .non
  | .bool b, v => v = .bl b
  | .int i, v => v = .int i
  | .str x, v => v = .str x
  | .list xs, v => ∃ a vs, v = .ref a ∧ a ∉ R ∧ H a = some (.lst vs) ∧ Dats R H xs vs
  | .tuple xs, v => ∃ a vs, v = .ref a ∧ a ∉ R ∧ H a = some (.tup vs) ∧ Dats R H xs vs
  | .dict kvs, v => ∃ (a : Addr) (ws : List (Str × Str)), v = .ref a ∧ a ∉ R ∧ H a = some (.dK (ws.map fun p => (Sum.inr p.1, V.str p.2))) ∧ kvs = ws.map fun p => (PyData.str p.1, PyData.str p.2)
def Dats (R : List Addr) (H : Hp) : List PyData → List V → Prop
  | [], vs => vs = []
  | d :: ds, vs => ∃ v r, vs = v :: r ∧ Dat R H d v ∧ Dats R H ds r
end
/-- all that stands outside R stays -/
def Ext (R : List Addr) (H H' : Hp) : Prop := ∀ a o, a ∉ R → H a = some o → H' a = some o
theorem Ext.refl {R : List Addr} (H : Hp) : Ext R H H := fun _ _ _ h => h
theorem Ext.trans {R : List Addr} {H H1 H2 : Hp} (a : Ext R H H1) (b : Ext R H1 H2) : Ext R H H2 := fun c o n h => b c o n (a c o n h)
theorem Ext.new {R : List Addr} {H : Hp} {p : Addr} {o : HO} (h : H p = none) : Ext R H (upd H p o) := fun a u _ e => by
  rw [upd_ne (ne_of_none e h)]; exact e
theorem Ext.put {R : List Addr} {H : Hp} {p : Addr} {o : HO} (h : p ∈ R) : Ext R H (upd H p o) := fun a u n e => by
  have ne : a ≠ p := fun z => n (by rw [z]; exact h)
  rw [upd_ne ne]; exact e
theorem Ext.mut {R : List Addr} {H H' : Hp} {p : Addr} {o : HO} (e : Ext R H H') (h : H p = none) : Ext R H (upd H' p o) := fun a u n q => by
  have ne : a ≠ p := ne_of_none q h
  rw [upd_ne ne]; exact e a u n q
theorem Ext.back {R : List Addr} {H H' : Hp} {p : Addr} (e : Ext R H H') (n : p ∉ R) (h : H' p = none) : H p = none := by
  cases q : H p with
  | none => rfl
  | some o => rw [e p o n q] at h; cases h
theorem Ext.free {H H' : Hp} {p : Addr} (e : Ext [] H H') (h : H' p = none) : H p = none := e.back (by simp) h
theorem Ext.made {R : List Addr} {H H' : Hp} {x dx : Addr} {o1 o2 : HO} (nx : H x = none) (nd : H dx = none) (e : Ext [x] (upd (upd H dx o1) x o2) H') : Ext R H H' := fun a u _ q => by
  have n1 : a ≠ x := ne_of_none q nx
  have n2 : a ≠ dx := ne_of_none q nd
  exact e a u (by simpa using n1) (by rw [upd_ne n1, upd_ne n2]; exact q)
theorem Ext.sub {R S : List Addr} {H H' : Hp} (e : Ext R H H') (h : ∀ a, a ∈ R → a ∈ S) : Ext S H H' := fun a o n q => e a o (fun z => n (h a z)) q
theorem Ext.of {R : List Addr} {H H' : Hp} (e : Same H H') : Ext R H H' := fun a o _ q => e a o q
theorem Ext.same {H H' : Hp} (e : Ext [] H H') : Same H H' := fun a o q => e a o (by simp) q

mutual
theorem Dat.ext {R : List Addr} {H H' : Hp} (e : Ext R H H') : ∀ {d : PyData} {v : V}, Dat R H d v → Dat R H' d v
  | .none, v, h => h
  | .bool b, v, h => h
  | .int i, v, h => h
  | .str x, v, h => h
  | .list xs, v, h => by
    unfold Dat at h ⊢
    obtain ⟨a, vs, h1, h2, h3, h4⟩ := h
    exact ⟨a, vs, h1, h2, e a _ h2 h3, Dats.ext e h4⟩
  | .tuple xs, v, h => by
    unfold Dat at h ⊢
    obtain ⟨a, vs, h1, h2, h3, h4⟩ := h
    exact ⟨a, vs, h1, h2, e a _ h2 h3, Dats.ext e h4⟩
  | .dict kvs, v, h => by
    unfold Dat at h ⊢
    obtain ⟨a, ws, h1, h2, h3, h4⟩ := h
    exact ⟨a, ws, h1, h2, e a _ h2 h3, h4⟩
theorem Dats.ext {R : List Addr} {H H' : Hp} (e : Ext R H H') : ∀ {ds : List PyData} {vs : List V}, Dats R H ds vs → Dats R H' ds vs
  | [], vs, h => h
  | d :: ds, vs, h => by
    unfold Dats at h ⊢
    obtain ⟨v, r, h1, h2, h3⟩ := h
    exact ⟨v, r, h1, Dat.ext e h2, Dats.ext e h3⟩
end
mutual
theorem Dat.keep {R S : List Addr} {H : Hp} (n : ∀ a, a ∈ S → a ∈ R ∨ H a = none ∨ ∃ C dx fs, H a = some (.ins C dx fs)) : ∀ {d : PyData} {v : V}, Dat R H d v → Dat S H d v
  | .none, v, h => h
  | .bool b, v, h => h
  | .int i, v, h => h
  | .str x, v, h => h
  | .list xs, v, h => by
    unfold Dat at h ⊢
    obtain ⟨a, vs, h1, h2, h3, h4⟩ := h
    refine ⟨a, vs, h1, fun z => ?_, h3, Dats.keep n h4⟩
    rcases n a z with q | q | ⟨_, _, _, q⟩
    · exact h2 q
    · rw [q] at h3; cases h3
    · rw [q] at h3; cases h3
  | .tuple xs, v, h => by
    unfold Dat at h ⊢
    obtain ⟨a, vs, h1, h2, h3, h4⟩ := h
    refine ⟨a, vs, h1, fun z => ?_, h3, Dats.keep n h4⟩
    rcases n a z with q | q | ⟨_, _, _, q⟩
    · exact h2 q
    · rw [q] at h3; cases h3
    · rw [q] at h3; cases h3
  | .dict kvs, v, h => by
    unfold Dat at h ⊢
    obtain ⟨a, ws, h1, h2, h3, h4⟩ := h
    refine ⟨a, ws, h1, fun z => ?_, h3, h4⟩
    rcases n a z with q | q | ⟨_, _, _, q⟩
    · exact h2 q
    · rw [q] at h3; cases h3
    · rw [q] at h3; cases h3
theorem Dats.keep {R S : List Addr} {H : Hp} (n : ∀ a, a ∈ S → a ∈ R ∨ H a = none ∨ ∃ C dx fs, H a = some (.ins C dx fs)) : ∀ {ds : List PyData} {vs : List V}, Dats R H ds vs → Dats S H ds vs
  | [], vs, h => h
  | d :: ds, vs, h => by
    unfold Dats at h ⊢
    obtain ⟨v, r, h1, h2, h3⟩ := h
    exact ⟨v, r, h1, Dat.keep n h2, Dats.keep n h3⟩
end
theorem Dat.sub {R S : List Addr} {H : Hp} (n : ∀ a, a ∈ S → a ∈ R) {d : PyData} {v : V} (h : Dat R H d v) : Dat S H d v := Dat.keep (fun a z => .inl (n a z)) h
theorem Dats.sub {R S : List Addr} {H : Hp} (n : ∀ a, a ∈ S → a ∈ R) {d : List PyData} {v : List V} (h : Dats R H d v) : Dats S H d v := Dats.keep (fun a z => .inl (n a z)) h
theorem dat_str {R : List Addr} {H : Hp} {x : Str} {v : V} : Dat R H (.str x) v ↔ v = .str x := by simp only [Dat]
theorem dat_int {R : List Addr} {H : Hp} {x : Int} {v : V} : Dat R H (.int x) v ↔ v = .int x := by simp only [Dat]
theorem dat_bool {R : List Addr} {H : Hp} {x : Bool} {v : V} : Dat R H (.bool x) v ↔ v = .bl x := by simp only [Dat]
theorem dat_none {R : List Addr} {H : Hp} {v : V} : Dat R H .none v ↔ v = .non := by simp only [Dat]
theorem dat_list {R : List Addr} {H : Hp} {xs : List PyData} {v : V} : Dat R H (.list xs) v ↔ ∃ a vs, v = .ref a ∧ a ∉ R ∧ H a = some (.lst vs) ∧ Dats R H xs vs := by simp only [Dat]
theorem dat_tup {R : List Addr} {H : Hp} {xs : List PyData} {v : V} : Dat R H (.tuple xs) v ↔ ∃ a vs, v = .ref a ∧ a ∉ R ∧ H a = some (.tup vs) ∧ Dats R H xs vs := by simp only [Dat]
theorem dat_dict {R : List Addr} {H : Hp} {kvs : List (PyData × PyData)} {v : V} : Dat R H (.dict kvs) v ↔ ∃ (a : Addr) (ws : List (Str × Str)), v = .ref a ∧ a ∉ R ∧ H a = some (.dK (ws.map fun p => (Sum.inr p.1, V.str p.2))) ∧ kvs = ws.map fun p => (PyData.str p.1, PyData.str p.2) := by simp only [Dat]
theorem dats_nil {R : List Addr} {H : Hp} {vs : List V} : Dats R H [] vs ↔ vs = [] := by simp only [Dats]
theorem dats_cons {R : List Addr} {H : Hp} {d : PyData} {ds : List PyData} {vs : List V} : Dats R H (d :: ds) vs ↔ ∃ v r, vs = v :: r ∧ Dat R H d v ∧ Dats R H ds r := by simp only [Dats]
theorem Dats.length {R : List Addr} {H : Hp} : ∀ {ds : List PyData} {vs : List V}, Dats R H ds vs → vs.length = ds.length
  | [], vs, h => by rw [dats_nil.mp h]; rfl
  | d :: ds, vs, h => by
    obtain ⟨v, r, rfl, _, h2⟩ := dats_cons.mp h
    show r.length + 1 = ds.length + 1
    rw [h2.length]
theorem Dats.get {R : List Addr} {H : Hp} : ∀ {ds : List PyData} {vs : List V} {i : Nat} {d : PyData}, Dats R H ds vs → ds[i]? = some d → ∃ v, vs[i]? = some v ∧ Dat R H d v
  | [], vs, i, d, h, e => by simp at e
  | d :: ds, vs, 0, d', h, e => by
    obtain ⟨v, r, rfl, h1, _⟩ := dats_cons.mp h
    cases (show d = d' from by simpa using e)
    exact ⟨v, rfl, h1⟩
  | d :: ds, vs, i + 1, d', h, e => by
    obtain ⟨v, r, rfl, _, h2⟩ := dats_cons.mp h
    obtain ⟨u, e1, e2⟩ := Dats.get (i := i) h2 (by simpa using e)
    exact ⟨u, by simpa using e1, e2⟩
theorem Dats.strs {R : List Addr} {H : Hp} : ∀ {xs : List Str} {vs : List V}, Dats R H (xs.map PyData.str) vs ↔ vs = xs.map V.str
  | [], vs => by show Dats R H [] vs ↔ vs = []; exact dats_nil
  | x :: xs, vs => by
    show Dats R H (PyData.str x :: xs.map PyData.str) vs ↔ vs = V.str x :: xs.map V.str
    rw [dats_cons]
    constructor
    · rintro ⟨v, r, rfl, h1, h2⟩
      rw [dat_str.mp h1, Dats.strs.mp h2]
    · rintro rfl
      exact ⟨_, _, rfl, dat_str.mpr rfl, Dats.strs.mpr rfl⟩
theorem Dats.bools {R : List Addr} {H : Hp} : ∀ {xs : List Bool} {vs : List V}, Dats R H (xs.map PyData.bool) vs ↔ vs = xs.map V.bl
  | [], vs => by show Dats R H [] vs ↔ vs = []; exact dats_nil
  | x :: xs, vs => by
    show Dats R H (PyData.bool x :: xs.map PyData.bool) vs ↔ vs = V.bl x :: xs.map V.bl
    rw [dats_cons]
    constructor
    · rintro ⟨v, r, rfl, h1, h2⟩
      rw [dat_bool.mp h1, Dats.bools.mp h2]
    · rintro rfl
      exact ⟨_, _, rfl, dat_bool.mpr rfl, Dats.bools.mpr rfl⟩

/-! ## repr of plain data -/
theorem reads_ws {P : Program} {w : World} {h : Heap} : ∀ (ws : List (Str × Str)) (vs : List (Key × Value)) (es : List DictEntry), KV (ws.map fun p => ((Sum.inr p.1 : Key), V.str p.2)) vs → Pairs (mixKind P w) es vs →
    ReadsAll h (es.map (·.key)) (ws.map fun p => PyData.str p.1) [] ∧ ReadsAll h (es.map (·.val)) (ws.map fun p => PyData.str p.2) []
  | [], [], [], _, _ => ⟨.nil, .nil⟩
  | (k, x) :: ws, kv :: vs, e :: es, .cons r1 r2, .cons p1 p2 p3 => by
    obtain ⟨q1, q2⟩ := reads_ws ws vs es r2 p3
    obtain ⟨e1, t, e2⟩ := r1
    have p1 : keyIs kv.1 e.key = true := p1
    rw [← e1] at p1
    rcases keyIs_shape p1 with ⟨i, t', z, _⟩ | ⟨y, t', z, hy⟩
    · cases z
    · cases z
      refine ⟨?_, ?_⟩
      · show ReadsAll h (e.key :: _) (PyData.str k :: _) ([] ++ [])
        rw [hy]
        exact .cons (.str _ _) q1
      · show ReadsAll h (e.val :: _) (PyData.str x :: _) ([] ++ [])
        rw [p2, e2]
        exact .cons (.str _ _) q2
mutual
theorem reads_of {P : Program} {w : World} {R : List Addr} {H : Hp} {h : Heap} (ok : HOk P w H h) : ∀ {d : PyData} {v : V} {u : Value}, Dat R H d v → RelV v u → ∃ as, Reads h u d as ∧ (H sysModules = none → sysModules ∉ as)
  | .none, v, u, hd, r => by cases dat_none.mp hd; cases (show u = Value.none from r); exact ⟨_, .none, fun _ => by simp⟩
  | .bool b, v, u, hd, r => by cases dat_bool.mp hd; cases (show u = Value.bool b from r); exact ⟨_, .bool b, fun _ => by simp⟩
  | .int i, v, u, hd, r => by cases dat_int.mp hd; obtain ⟨t, rfl⟩ := r; exact ⟨_, .int i t, fun _ => by simp⟩
  | .str x, v, u, hd, r => by cases dat_str.mp hd; obtain ⟨t, rfl⟩ := r; exact ⟨_, .str x t, fun _ => by simp⟩
  | .list xs, v, u, hd, r => by
    obtain ⟨a, vs, rfl, _, ha, h4⟩ := dat_list.mp hd
    cases (show u = Value.ref a from r)
    obtain ⟨_, its, n, rv, e⟩ := (show ObjOk P w H h a (.lst vs) from ok a _ ha)
    obtain ⟨as, q, nm⟩ := readsAll_of ok h4 rv
    exact ⟨_, .list e rfl rfl (by simpa using q), fun z m => (List.mem_cons.mp m).elim (fun y => by rw [y, ha] at z; cases z) (nm z)⟩
  | .tuple xs, v, u, hd, r => by
    obtain ⟨a, vs, rfl, _, ha, h4⟩ := dat_tup.mp hd
    cases (show u = Value.ref a from r)
    obtain ⟨_, its, rv, o, e, hc, n, hdt⟩ := (show ObjOk P w H h a (.tup vs) from ok a _ ha)
    obtain ⟨as, q, nm⟩ := readsAll_of ok h4 rv
    exact ⟨_, .tuple e hc hdt (by simpa using q), nm⟩
  | .dict kvs, v, u, hd, r => by
    obtain ⟨a, ws, rfl, _, ha, rfl⟩ := dat_dict.mp hd
    cases (show u = Value.ref a from r)
    obtain ⟨_, ns, vs, kv, o, es, ep, e, ex, dt, _, pr, _⟩ := (show ObjOk P w H h a (.dK _) from ok a _ ha)
    obtain ⟨q1, q2⟩ := reads_ws (h := h) ws vs es.toList kv pr
    refine ⟨a :: [] ++ [], .dict e ex.1 dt (by rw [List.map_map]; exact q1) (by rw [List.map_map]; exact q2), fun _ => ?_⟩
    have : a ≠ sysModules := by simpa using ns
    simpa using this.symm
theorem readsAll_of {P : Program} {w : World} {R : List Addr} {H : Hp} {h : Heap} (ok : HOk P w H h) : ∀ {ds : List PyData} {vs : List V} {us : List Value}, Dats R H ds vs → Vals vs us → ∃ as, ReadsAll h us ds as ∧ (H sysModules = none → sysModules ∉ as)
  | [], vs, us, hd, r => by
    cases dats_nil.mp hd
    cases r
    exact ⟨_, .nil, fun _ => by simp⟩
  | d :: ds, vs, us, hd, r => by
    obtain ⟨v, r', rfl, h1, h2⟩ := dats_cons.mp hd
    cases r with
    | cons r1 r2 =>
      obtain ⟨as, q1, n1⟩ := reads_of ok h1 r1
      obtain ⟨bs, q2, n2⟩ := readsAll_of ok h2 r2
      exact ⟨_, .cons q1 q2, fun y => by rw [List.mem_append]; exact fun z => z.elim (n1 y) (n2 y)⟩
end
/-- data that may be shown -/
structure Showy (d : PyData) : Prop where
  sh : d.showable = true
  nd : d.hasDict = false
  sz : d.shown.length ≤ sizeLine
  dp : d.depth ≤ 100
def rRepr : List V → Hp → VK → Prop := fun xs H Q => ∃ (a : Addr) (R : List Addr) (d : PyData), xs = [.ref a] ∧ Dat R H d (.ref a) ∧ Showy d ∧ Q (.str d.shown) H
theorem call_reprD {X : Cx} {k : Nat} (g : X.A.guards = some []) (hr : Room k X.A) : CallR X (.builtin "repr") rRepr := by
  intro pins s σ H xs us Q I r h
  obtain ⟨a, R, d, rfl, hd, S, q⟩ := h
  obtain ⟨u, rfl, e⟩ := vals1 r
  cases (show u = Value.ref a from e)
  obtain ⟨as, rd, _⟩ := reads_of I.hok hd (u := .ref a) rfl
  have un := hr.un
  refine repr_of_reads' rd S.sh (fun z => by rw [S.nd] at z; cases z) g (by have := S.dp; omega) (fun _ _ e => e) (fun h' t tk hk => ?_) S.sz
  exact ⟨.str d.shown, H, I.kept hk, ⟨t, rfl⟩, q⟩
/-- .. with dicts of texts within; the written part holds the modules' dict -/
structure ShowyM (d : PyData) : Prop where
  sh : d.showable = true
  sz : d.shown.length ≤ sizeLine
  dp : d.depth ≤ 100
def rReprM : List V → Hp → VK → Prop := fun xs H Q => ∃ (a : Addr) (R : List Addr) (d : PyData), xs = [.ref a] ∧ Dat R H d (.ref a) ∧ ShowyM d ∧ Q (.str d.shown) H
theorem call_reprM {X : Cx} {k : Nat} (sm : ∃ o, X.K.lookup sysModules = some o) (g : X.A.guards = some []) (hr : Room k X.A) : CallR X (.builtin "repr") rReprM := by
  intro pins s σ H xs us Q I r h
  obtain ⟨a, R, d, rfl, hd, S, q⟩ := h
  obtain ⟨u, rfl, e⟩ := vals1 r
  cases (show u = Value.ref a from e)
  obtain ⟨as, rd, nm⟩ := reads_of I.hok hd (u := .ref a) rfl
  have un := hr.un
  obtain ⟨o, ho⟩ := sm
  have hs : H sysModules = none := (I.env0.bs _ _ (I.env0.mod.kin _ _ ho)).2
  refine repr_of_reads' rd S.sh (fun _ => nm hs) g (by have := S.dp; omega) (fun _ _ e => e) (fun h' t tk hk => ?_) S.sz
  exact ⟨.str d.shown, H, I.kept hk, ⟨t, rfl⟩, q⟩
end Eb
set_option maxHeartbeats 4000000
namespace Eb
open PySem PySem.Spec PyProof.Rows L2

/-! ## the law's end, nothing being shown ahead of it -/
/-- the law's call at an abstract heap H that tracks the script alone, or nothing -/
theorem endG {P : Program} {w : World} {K : PySem.W.Frag} {mg mb : Str → Option Value} {k : Nat} {fa a : Addr} {fd : FuncData} {x : Str} {sp : Sp} {s₁ : Shared} {vs : List Value} (H : Hp)
    (KX : K.In s₁.heap) (hns : s₁.heap.Ns mainGlobals mg) (hb : s₁.heap.Ns builtinsNs mb) (hbb : ∀ x : Str, x ≠ "__name__" → mb x = bootBuiltins x) (hlim : s₁.heap.NoLimit) (hg : s₁.gens = #[])
    (ha : s₁.heap.get? a = some { cls := .type "list", data := .seq vs.toArray }) (hr : Room k callerA) (F : ∀ base : Heap, FnG P w K mg base k fa fd [x] sp) (bd : ∀ (s : Shared) (u : Value), BindsTo s fd ⟨[u], []⟩ [(x, u)])
    (hsp : sp [.ref a] H (fun v _ => v = .bl true) fun _ _ _ => False) (hO : Only H) (hok : HOk P w H s₁.heap) (hA : ∀ b, H b ≠ none → b = a) (hK : H a ≠ none → K.lookup a = none) :
    codeAny (model P w) callerA (.call (.ref fa) ⟨[.ref a], []⟩) (fun r s' => r = .ok (.ret (.bool true)) ∧ OldK s₁.heap s'.heap ∧ s'.os = s₁.os ∧ AllBare s'.gens) s₁ := by
  have untr : ∀ {b : Addr}, b ≠ a → H b = none := fun {b} n => Classical.byContradiction fun z => n (hA b z)
  have dk : ∀ {b : Addr} {o : Obj} {es : Array DictEntry} {ep : Nat}, s₁.heap.get? b = some o → o.data = .dict es ep → (hidT s₁.heap H).get? b = some o := fun {b o es ep} e d => by
    refine hidT_get e (untr fun z => ?_)
    rw [z, ha] at e
    cases e
    cases (show Data.seq vs.toArray _ = Data.dict es ep from d)
  have nk : ∀ {b : Addr} {m : Str → Option Value}, s₁.heap.Ns b m → (hidT s₁.heap H).Ns b m := fun {b m} ⟨o, es, ep, e, d, r⟩ => ⟨o, es, ep, dk e d, d, r⟩
  have kb : K.In (hidT s₁.heap H) := fun b o e => hidT_get (KX b o e) (Classical.byContradiction fun z => by
    have q := hA b z
    rw [q] at e z
    rw [hK z] at e
    cases e)
  have mo : Mod K mg (hidT s₁.heap H) := ⟨kb, nk hns, ⟨mb, nk hb, hbb⟩, let ⟨mc, h1, h2⟩ := hlim; ⟨mc, nk h1, h2⟩⟩
  have e0 : Env0 P w K mg (hidT s₁.heap H) callerA [] s₁ H := ⟨rfl, mo, fun b o e => of_hidT e, Nat.le_of_eq (hidT_size _ _), trivial, fun b z => (List.not_mem_nil (show b ∈ ([] : List Addr) from z)).elim, hok, .of_eq hg⟩
  refine codeAny_mono ((F _).run callerA [] s₁ H ⟨[.ref a], []⟩ [.ref a] [.ref a] _ _ rfl hr e0 (bd s₁ (.ref a)) (.cons rfl .nil) hsp) fun r s' h => ?_
  cases r with
  | error e => exact False.elim h
  | ok fl =>
    cases fl with
    | ret u =>
      obtain ⟨v, H', os, bare, un, hok', r', q⟩ := h
      cases (show v = .bl true from q)
      cases (show u = Value.bool true from r')
      refine ⟨rfl, OldK.of_keep fun b o e => ?_, os, bare⟩
      rcases hO b with z | ⟨ob, xs, z⟩
      · exact un.keep b o e z (fun m => List.not_mem_nil (show b ∈ ([] : List Addr) from m)) (fun m => List.not_mem_nil m)
      · obtain ⟨e1, _⟩ := hok b _ z
        obtain ⟨e2, _⟩ := hok' b _ (un.frzs b ob _ z)
        rw [e] at e1
        cases e1
        exact e2
    | _ => exact False.elim h
/-- what the law's def must promise; the script's bits are told -/
theorem walkG {l : PySem.W.OpenLaw} {n k : Nat} {q : Program} {loose : List Str} {XP : (Str → Option Value) → Heap → Prop} {YP : World → Heap → Prop} {d : DefRec} {x : Str}
    (hn : l.most = some n) (hn2 : n ≤ sizeLine) (hdf : d.params.defaults = []) (hr : Room k callerA)
    (F : ∀ (w : World) (mg : Str → Option Value) (fa : Addr) (h : Heap), YP w h → h.Ns mainGlobals mg → mg d.name = some (.ref fa) →
      ∃ (K : PySem.W.Frag) (fd : FuncData) (sp : Sp), K.In h ∧ (∀ (s : Shared) (u : Value), BindsTo s fd ⟨[u], []⟩ [(x, u)]) ∧
        (∀ (H : Hp) (a : Addr) (ns : List Int), ns.length ≤ n → (∀ z ∈ ns, Builtin.Int.intBits z ≤ 1048576) → Only H → SqL K H a (ns.map V.int) → sp [.ref a] H (fun v _ => v = .bl true) fun _ _ _ => False) ∧
        ∀ base : Heap, FnG l.prog w K mg base k fa fd [x] sp) :
    PySem.W.WalkO q loose XP YP l.row.toRowW d [] (fun f vs => PySem.call f vs) := by
  refine Att.attach_callB hn hdf fun w s₀ s₁ mg mb fa o pm cd doc a vs ns G Y ho hd hcd hmg hobj hints hlen hbits hg => ?_
  obtain ⟨K, fd, sp, KX, bd, hsp, hF⟩ := F w mg fa _ Y G.T.g hmg
  have rv := vals_ints hints
  have lv := hints.length
  have lz : ns.length ≤ sizeLine := Nat.le_trans hlen hn2
  cases hk : K.lookup a with
  | some ob =>
    have e := KX a ob hk
    rw [hobj] at e
    cases e
    refine endG (fun _ => none) KX G.T.g G.T.b G.T.builtins G.T.nolimit hg hobj hr hF bd (hsp _ a ns hlen hbits (fun _ => .inl rfl) (.inr ⟨_, vs.toArray, _, hk, rfl, rfl, rfl, ?_, ?_⟩)) (fun _ => .inl rfl) (fun b u z => nomatch z) (fun b z => absurd rfl z) (fun z => absurd rfl z)
    · rw [List.size_toArray, lv]; exact lz
    · simpa using rv
  | none =>
    have at_a : ∀ b, (if b = a then some (HO.frz { cls := .type "list", data := .seq vs.toArray } (.lst (ns.map V.int))) else none) ≠ none → b = a := fun b z => Classical.byContradiction fun c => z (if_neg c)
    have on : Only (fun b => if b = a then some (HO.frz { cls := .type "list", data := .seq vs.toArray } (.lst (ns.map V.int))) else none) := fun b => by
      by_cases c : b = a
      · exact .inr ⟨_, _, if_pos c⟩
      · exact .inl (if_neg c)
    refine endG _ KX G.T.g G.T.b G.T.builtins G.T.nolimit hg hobj hr hF bd (hsp _ a ns hlen hbits on (.inl (.inr ⟨_, if_pos rfl⟩))) on (fun b u z => ?_) at_a (fun _ => hk)
    by_cases c : b = a
    · cases (if_pos c).symm.trans z
      subst c
      exact ⟨hobj, by rw [List.length_map]; exact lz, vs, _, rv, hobj⟩
    · cases (if_neg c).symm.trans z

/-! ## a def that may be called by its name -/
structure CalG (P : Program) (w : World) (K : PySem.W.Frag) (mg : Str → Option Value) (base : Heap) (k : Nat) (x : Str) (sp : Sp) : Prop where
  ex : ∃ (f : Addr) (fd : FuncData) (ps : List Str), FnG P w K mg base k f fd ps sp ∧ mg x = some (.ref f) ∧ PySem.W.keepIn K (.ref f) = true ∧ Binds K fd ps []
section
variable {X : Cx} {k j : Nat} {x : Str} {sp : Sp} {p pos : Pos} {e : Expr} {es : List Expr} {t : TA}
theorem pe_g (c : CalG X.prog X.w X.K X.mg X.base k x sp) (g : X.A.guards = some []) (hr : Room j X.A) (hk : k ≤ j) (hg : Gl X x) (ha : PA X (e :: es) t)
    (hdb : (x == ("__debug__" : Str)) = false := by decide) (he : starEach (e :: es) X.env = (false, eval e X.env) :: starEach es X.env := by rfl) (hpl : (backTo pos (starEach es X.env)).any (·.1) = false := by rfl) :
    PE X (.Call (.Name x p) (e :: es) [] pos) (tCall sp [] E0 t) := by
  obtain ⟨f, fd, ps, F, hm, kp, b⟩ := c.ex
  exact pe_callG F g (hr.mono hk) hg hm kp b .nil ha hdb he hpl
theorem pe_g0 (c : CalG X.prog X.w X.K X.mg X.base k x sp) (g : X.A.guards = some []) (hr : Room j X.A) (hk : k ≤ j) (hg : Gl X x)
    (hdb : (x == ("__debug__" : Str)) = false := by decide) : PE X (.Call (.Name x p) [] [] pos) (tCall sp [] E0 tNil) := by
  obtain ⟨f, fd, ps, F, hm, kp, b⟩ := c.ex
  exact pe_callG0 F g (hr.mono hk) hg hm kp b .nil hdb
end

/-! ## what the head tells: looks at the written part, defs -/
def obsX (cs : List (PySem.W.Frag → Bool)) (fn : List He.DefD) (K : PySem.W.Frag) : He.AlD := ((cs.all fun c => c K) && fn.all fun d => d.ok K, fn.map fun d => He.fnW K d.at_)
def SaysX (cs : List (PySem.W.Frag → Bool)) (fn : List He.DefD) (K : PySem.W.Frag) : Prop := obsX cs fn K = He.valD fn
def obsXG (n : Nat) (cs : List (PySem.W.Frag → Bool)) (fn : List He.DefD) (g : Addr → Option Obj) : He.AlD := obsX cs fn (He.frG g (He.asD g n))
def hookX (n : Nat) (cs : List (PySem.W.Frag → Bool)) (fn : List He.DefD) : PySem.W.Hook where
  α := He.AlD
  obs := fun s => obsXG n cs fn s.heap.get?
  val := fun _ => He.valD fn
  says := fun _ h => ∃ K : PySem.W.Frag, K.In h ∧ SaysX cs fn K
  of := fun _ _ e => ⟨_, He.frG_in, e⟩
  keeps := fun _ _ _ ⟨K, hK, c⟩ k => ⟨K, hK.keeps k, c⟩
theorem obsXG_eq {n : Nat} {cs : List (PySem.W.Frag → Bool)} {fn : List He.DefD} {g : Addr → Option Obj} {s : Shared} (h : ∀ a, g a = s.heap.get? a) : obsXG n cs fn g = (hookX n cs fn).obs s := by
  rw [show g = s.heap.get? from funext h]; rfl
section
variable {cs : List (PySem.W.Frag → Bool)} {fn : List He.DefD} {K : PySem.W.Frag}
theorem SaysX.look (c : SaysX cs fn K) (i : Nat) {f : PySem.W.Frag → Bool} (h : cs[i]? = some f := by rfl) : f K = true := by
  have c1 : ((cs.all fun c => c K) && fn.all fun d => d.ok K) = true := congrArg (fun z : He.AlD => z.1) c
  exact List.all_eq_true.mp (He.ba c1).1 f (List.mem_of_getElem? h)
theorem SaysX.defd (c : SaysX cs fn K) (i : Nat) {d : He.DefD} (h : fn[i]? = some d := by rfl) : ∃ fd, FunD K d.name d.qual d.params d.body d.scope (d.dvs K) (d.kws K) (He.fAd K d.at_) fd := by
  have c1 : ((cs.all fun c => c K) && fn.all fun d => d.ok K) = true := congrArg (fun z : He.AlD => z.1) c
  have e : fn.map (fun d => He.fnW K d.at_) = fn.map He.DefD.val := congrArg (fun z : He.AlD => z.2) c
  have e2 := congrArg (fun l => l[i]?) e
  simp only [List.getElem?_map, h, Option.map_some] at e2
  exact He.DefD.funD (Option.some.inj e2) (List.all_eq_true.mp (He.ba c1).2 d (List.mem_of_getElem? h))
end
/-- an instance's type, as isinstance asks it -/
def insB (x : Str) (K : PySem.W.Frag) : Bool := He.eqO (PySem.W.findIn K (.ref (He.ga K x)) "__class__") (some (some (.builtin "object.__class__"))) &&
  (He.eqO (PySem.W.specialIn K (.builtin "object.__class__") "__get__") (some (some (.builtin "getset_descriptor.__get__"))) && (decide (PySem.W.takesIn K (.builtin "object.__class__") = some true) && decide (PySem.W.mroIn K (He.ga K x) (.type "object") = some true)))
def isB (t : PySem.W.Frag → Value) (c : PySem.W.Frag → Value) (b : Bool) (K : PySem.W.Frag) : Bool := decide (PySem.W.kitOne K (t K) (c K) = some b)
theorem insB_ok {K : PySem.W.Frag} {H : Hp} {x : Str} (c : Cls K (He.ga K x)) (h : insB x K = true) {a dx : Addr} {fs : List (Str × V)} (e : H a = some (.ins (He.ga K x) dx fs)) : TyX K H (.ref a) (.ref (He.ga K x)) := by
  obtain ⟨h1, h2⟩ := He.ba h
  obtain ⟨h3, h4⟩ := He.ba h2
  obtain ⟨h5, h6⟩ := He.ba h4
  exact .base (.ins e c (He.eqO_ok h1) (He.eqO_ok h3) (of_decide_eq_true h5) (of_decide_eq_true h6))
theorem isB_ok {t c : PySem.W.Frag → Value} {b : Bool} {K : PySem.W.Frag} (h : isB t c b K = true) : PySem.W.kitOne K (t K) (c K) = some b := of_decide_eq_true h
end Eb
namespace Eb
open PySem PySem.Spec PyProof.Rows L2
/-- at p an empty tuple is written -/
def tupAtB (K : PySem.W.Frag) (p : Addr) : Bool := match K.lookup p with
  | some ⟨.type c, _, .seq its _, _⟩ => decide (c = "tuple") && decide (its = #[])
  | _ => false
theorem tupAt_ok {K : PySem.W.Frag} {p : Addr} (h : tupAtB K p = true) (H : Hp) : SqT K H p [] := by
  unfold tupAtB at h
  cases q : K.lookup p with
  | none => rw [q] at h; cases h
  | some o =>
    obtain ⟨oc, od, dt, osl⟩ := o
    rw [q] at h
    cases oc with
    | type c =>
      cases dt with
      | seq its n =>
        obtain ⟨h1, h2⟩ := He.ba (show (decide (c = "tuple") && decide (its = #[])) = true from h)
        have e := of_decide_eq_true h2
        subst e
        exact .inr ⟨_, #[], n, q, congrArg Value.type (of_decide_eq_true h1), rfl, by simp, .nil⟩
      | _ => cases h
    | _ => cases dt <;> cases h
theorem tupAt_ty {K : PySem.W.Frag} {p : Addr} (h : tupAtB K p = true) (H : Hp) : TyX K H (.ref p) (.type "tuple") := by
  unfold tupAtB at h
  cases q : K.lookup p with
  | none => rw [q] at h; cases h
  | some o =>
    obtain ⟨oc, od, dt, osl⟩ := o
    rw [q] at h
    cases oc with
    | type c =>
      cases dt with
      | seq its n =>
        obtain ⟨h1, h2⟩ := He.ba (show (decide (c = "tuple") && decide (its = #[])) = true from h)
        exact .kTuple q (congrArg Value.type (of_decide_eq_true h1))
      | _ => cases h
    | _ => cases dt <;> cases h
end Eb
set_option maxHeartbeats 4000000
namespace Eb
open PySem PySem.Spec PyProof.Rows L2
theorem itT {b : Bool} {A B : Prop} (e : b = true) (h : A) : if b = true then A else B := by rw [if_pos e]; exact h
theorem itF {b : Bool} {A B : Prop} (e : b = false) (h : B) : if b = true then A else B := by rw [if_neg (by rw [e]; decide)]; exact h
theorem it2 {b : Bool} {A B : Prop} (h1 : b = true → A) (h2 : b = false → B) : if b = true then A else B := by
  cases b
  · exact itF rfl (h2 rfl)
  · exact itT rfl (h1 rfl)
theorem dT {p : Prop} [Decidable p] (h : p) : decide p = true := decide_eq_true h
theorem dF {p : Prop} [Decidable p] (h : ¬ p) : decide p = false := decide_eq_false h
theorem at_g {α : Type} {xs : List α} {z : Int} {j : Nat} {v : α} (e : z = (j : Int)) (h : xs[j]? = some v) : atI xs z = some v := by subst e; exact atI_nat h
theorem mem1 {a : Addr} : a ∈ [a] := List.mem_singleton.mpr rfl

/-! ## the ways behind a part joined -/
def tJ (te : TE) : TE := fun σ H Q => ∃ P : VK, te σ H P ∧ ∀ v H', P v H' → Q v H'
theorem pe_j {X : Cx} {e : Expr} {te : TE} (h : PE X e te) : PE X e (tJ te) :=
  ⟨fun pins s σ H Q I ⟨P, h1, h2⟩ => wpAny_mono (h.run pins s σ H P I h1) (fun v s' ⟨x, H', I', r, p⟩ => ⟨x, H', I', r, h2 x H' p⟩) fun _ _ z => z⟩
def tJT (tt : TT) : TT := fun σ H Q => ∃ P : Bool → Hp → Prop, tt σ H P ∧ ∀ v H', P v H' → Q v H'
theorem pt_j {X : Cx} {e : Expr} {tt : TT} (h : PT X e tt) : PT X e (tJT tt) :=
  ⟨fun pins s σ H Q I ⟨P, h1, h2⟩ => wpAny_mono (h.run pins s σ H P I h1) (fun v s1 ⟨H1, I1, p⟩ => ⟨H1, I1, h2 v H1 p⟩) fun _ _ z => z⟩
def tJS (t : TS) : TS := fun D σ H => ∃ N : L2.St → Hp → Prop, t { D with nx := N } σ H ∧ ∀ σ' H', N σ' H' → D.nx σ' H'
theorem ps_j {X : Cx} {st : Stmt} {t : TS} (h : PS X st t) : PS X st (tJS t) :=
  ⟨fun pins s σ H D I ⟨N, h1, h2⟩ => wpAny_mono (h.run pins s σ H _ I h1) (fun f s' p => by
    cases f with
    | next => obtain ⟨σ', H', J, q⟩ := p; exact ⟨σ', H', J, h2 σ' H' q⟩
    | ret u => exact p
    | brk => exact p
    | cont => exact p) fun _ _ z => z⟩
section
variable {X : Cx} {x : Str} {pos : Pos}
/-- the module's constants -/
theorem pe_gi {n : Int} (h : ∃ t, X.mg x = some (.int n t)) (hg : Gl X x := by rfl) (hd : (x == ("__debug__" : Str)) = false := by decide) : PE X (.Name x pos) (tC (.int n)) := let ⟨t, e⟩ := h; pe_glob hg e ⟨t, rfl⟩ hd
theorem pe_gs {z : Str} (h : ∃ t, X.mg x = some (.str z t)) (hg : Gl X x := by rfl) (hd : (x == ("__debug__" : Str)) = false := by decide) : PE X (.Name x pos) (tC (.str z)) := let ⟨t, e⟩ := h; pe_glob hg e ⟨t, rfl⟩ hd
theorem pe_gr {a : Addr} (h : X.mg x = some (.ref a)) (hg : Gl X x := by rfl) (hd : (x == ("__debug__" : Str)) = false := by decide) : PE X (.Name x pos) (tC (.ref a)) := pe_glob hg h rfl hd
theorem pe_ty {T : String} (h : X.mg x = none) (hv : bootBuiltins x = some (.type T)) (hg : Gl X x := by rfl) (hn : x ≠ "__name__" := by decide) (hd : (x == ("__debug__" : Str)) = false := by decide) : PE X (.Name x pos) (tC (.ty T)) := pe_bltn hg h hv rfl hn hd
end

/-! ## one of two rules -/
section
variable {X : Cx}
theorem ix_or {r1 r2 : R2} (h1 : IxR X r1) (h2 : IxR X r2) : IxR X (fun x y H Q => r1 x y H Q ∨ r2 x y H Q) := fun b hb pins s σ H x y v u Q I a c h => h.elim (fun q => h1 b hb pins s σ H x y v u Q I a c q) (fun q => h2 b hb pins s σ H x y v u Q I a c q)
theorem pi_or {tg e : Expr} {w1 w2 : TI} (h1 : PI X tg e w1) (h2 : PI X tg e w2) : PI X tg e (fun σ H R => w1 σ H R ∨ w2 σ H R) := ⟨fun pins s σ H R I h => h.elim (fun q => h1.run pins s σ H R I q) (fun q => h2.run pins s σ H R I q)⟩
theorem op_or' {f : Value → Value → Sem Value} {r1 r2 : R2} (h1 : OpR X f r1) (h2 : OpR X f r2) : OpR X f (fun x y H Q => r1 x y H Q ∨ r2 x y H Q) := fun pins s σ H x y v u Q I a c h => h.elim (fun q => h1 pins s σ H x y v u Q I a c q) (fun q => h2 pins s σ H x y v u Q I a c q)
theorem call_or {f : Value} {r1 r2 : List V → Hp → VK → Prop} (h1 : CallR X f r1) (h2 : CallR X f r2) : CallR X f (fun x H Q => r1 x H Q ∨ r2 x H Q) := fun pins s σ H x u Q I a h => h.elim (fun q => h1 pins s σ H x u Q I a q) (fun q => h2 pins s σ H x u Q I a q)
end
/-- o.f as one of several targets -/
def gFld (K : PySem.W.Frag) (ta : TE) (f : Str) : TG := fun y σ H Q => ta σ H fun x H2 => ∃ a C dx fs, x = .ref a ∧ H2 a = some (.ins C dx fs) ∧ Cls K C ∧ NoAttr K C f ∧ fs.length < 1000 ∧ Q σ (upd H2 a (.ins C dx (putF f y fs)))
theorem pg_fld {X : Cx} {o : Expr} {f : Str} {ta : TE} {pos : Pos} (ha : PE X o ta) : PG X (.Attribute o f pos) (gFld X.K ta f) := by
  refine ⟨fun pins s σ H v u Q I r h => ?_⟩
  rw [assign_Attribute]
  refine wpAny_bind (wpAny_holding (thn (ha.run pins s σ H _ I h) fun ov s1 ⟨x, H1, I1, rx, a, C, dx, fs, ex, ea, c, n, l, q⟩ => ?_))
  subst ex
  obtain rfl : ov = Value.ref a := rx
  refine wpAny_bind (wpAny_standAt (wpAny_bind (wpAny_holding (setattr_ok I1 ea c n l r fun s3 I3 => ?_))))
  exact wpAny_release ⟨σ, _, I3, q⟩
section
variable {P : Program} {w : World} {K : PySem.W.Frag} {mg : Str → Option Value} {base : Heap} {k : Nat} {f : Addr} {ps N : List Str} {sp : Sp} {x qual : Str} {params : Arguments} {body : List Stmt} {scope : Scope}
/-- bindings where every parameter is written -/
def Bd (x qual : Str) (params : Arguments) (body : List Stmt) (scope : Scope) (ps : List Str) : Prop :=
  ∀ (kV doc pm : Value) (an : Option Addr) (cdv ct : Value) (us : List Value), us.length = ps.length → bindArgs (PySem.W.fnOf x qual params body scope .none kV doc pm an cdv ct) ⟨us, []⟩ = pure (ps.zip us)
/-- what a body shows -/
def By (P : Program) (w : World) (K : PySem.W.Frag) (mg : Str → Option Value) (base : Heap) (k : Nat) (f : Addr) (N : List Str) (qual : Str) (body : List Stmt) (scope : Scope) (sp : Sp) : Prop :=
  ∀ (cdv : Value) (A : Around) (outer : List Env) (s : Shared) (H : Hp) (vs : List V) (Q : VK) (E : XK), Room k (A.deeper (envOfC qual scope s.heap.objs.size f cdv)) → sp vs H Q E →
      ∃ t, PSs (cxOf CX0 P w K mg base N qual scope f cdv A outer s H E).nox body t ∧ t { nx := fun _ H' => Q .non H', rt := Q } (start N vs) H
theorem okD {dvs : List V} {fd : FuncData} (F : FunD K x qual params body scope dvs [] f fd) (S : FnScope N ps scope) (len : ∀ vs H Q E, sp vs H Q E → vs.length = ps.length) (hb : By P w K mg base k f N qual body scope sp) : FnOk P w K mg base CX0 (k + 1) f fd ps sp :=
  F.ok S len fun cdv A o s H vs Q E hr h => let ⟨t, h1, h2⟩ := hb cdv A o s H vs Q E hr h; ⟨t, h1.nox, h2⟩
theorem calD (h : ∃ fd, FunD K x x params body scope [] [] f fd) (g : mg x = some (.ref f)) (S : FnScope N ps scope) (bd : Bd x x params body scope ps) (len : ∀ vs H Q E, sp vs H Q E → vs.length = ps.length)
    (hb : By P w K mg base k f N x body scope sp) : C8.Cal P w K mg base (k + 1) x sp [] := by
  obtain ⟨fd, F⟩ := h
  exact ⟨f, fd, ps, [], okD F S len hb, g, F.kp, F.bindsN bd, .nil⟩
theorem metD {C : Addr} (h : ∃ fd, FunD K x qual params body scope [] [] f fd) (c : Cls K C) (m : Meth K C x f) (S : FnScope N ps scope) (bd : Bd x qual params body scope ps) (len : ∀ vs H Q E, sp vs H Q E → vs.length = ps.length)
    (hb : By P w K mg base k f N qual body scope sp) : C8.Met P w K mg base (k + 1) C x sp [] := by
  obtain ⟨fd, F⟩ := h
  exact ⟨f, fd, ps, [], c, m, okD F S len hb, F.bindsN bd, .nil⟩
theorem makD {C : Addr} {cn : Str} (h : ∃ fd, FunD K x qual params body scope [] [] f fd) (M : Mk K C f) (g : mg cn = some (.ref C)) (S : FnScope N ps scope) (bd : Bd x qual params body scope ps) (len : ∀ vs H Q E, sp vs H Q E → vs.length = ps.length)
    (hb : By P w K mg base k f N qual body scope sp) : C8.Mak P w K mg base (k + 1) cn C sp [] := by
  obtain ⟨fd, F⟩ := h
  exact ⟨f, fd, ps, [], M, okD F S len hb, g, F.bindsN bd, .nil⟩
/-- a class whose __init__ has defaults, n written arguments (self among them), the defaults behind the first j -/
theorem makD1 {C : Addr} {cn : Str} {dvs : List V} (h : ∃ fd, FunD K x qual params body scope dvs [] f fd) (M : Mk K C f) (g : mg cn = some (.ref C)) (S : FnScope N ps scope) (n j : Nat) (hd : dvs ≠ []) (hn : n + (dvs.length - j) = ps.length)
    (bd : ∀ (T : Addr) (kV doc pm : Value) (an : Option Addr) (cdv ct : Value) (us its : List Value), us.length = n → its.length = dvs.length →
      ∃ k, bindArgs (PySem.W.fnOf x qual params body scope (.ref T) kV doc pm an cdv ct) ⟨us, []⟩ = seqItems? (.ref T) >>= k ∧ k (some its.toArray) = pure (ps.zip (us ++ its.drop j)))
    (len : ∀ vs H Q E, sp vs H Q E → vs.length = ps.length) (hb : By P w K mg base k f N qual body scope sp) : C8.Mak P w K mg base (k + 1) cn C sp (dvs.drop j) := by
  obtain ⟨fd, F⟩ := h
  obtain ⟨ds, h1, h2⟩ := F.binds1 n j hd hn bd
  exact ⟨f, fd, ps, ds, M, okD F S len hb, g, h2, h1⟩
/-- what a body shows, nothing being shown around -/
def ByG (P : Program) (w : World) (K : PySem.W.Frag) (mg : Str → Option Value) (base : Heap) (k : Nat) (f : Addr) (N : List Str) (qual : Str) (body : List Stmt) (scope : Scope) (sp : Sp) : Prop :=
  ∀ (cdv : Value) (A : Around) (outer : List Env) (s : Shared) (H : Hp) (vs : List V) (Q : VK) (E : XK), (A.deeper (envOfC qual scope s.heap.objs.size f cdv)).guards = some [] → Room k (A.deeper (envOfC qual scope s.heap.objs.size f cdv)) → sp vs H Q E →
      ∃ t, PSs (cxOf CX0 P w K mg base N qual scope f cdv A outer s H E).nox body t ∧ t { nx := fun _ H' => Q .non H', rt := Q } (start N vs) H
theorem calG (h : ∃ fd, FunD K x x params body scope [] [] f fd) (g : mg x = some (.ref f)) (S : FnScope N ps scope) (bd : Bd x x params body scope ps) (len : ∀ vs H Q E, sp vs H Q E → vs.length = ps.length)
    (hb : ByG P w K mg base k f N x body scope sp) : CalG P w K mg base (k + 1) x sp := by
  obtain ⟨fd, F⟩ := h
  exact ⟨f, fd, ps, okG F S len hb, g, F.kp, F.bindsN bd⟩
end

theorem pe_mk0 {X : Cx} {k j : Nat} {C : Addr} {x : Str} {sp : Sp} {dvs : List V} {p pos : Pos} (c : C8.Mak X.prog X.w X.K X.mg X.base k x C sp dvs) (hr : Room j X.A) (hk : k + 1 ≤ j) (hg : Gl X x) (hdb : (x == ("__debug__" : Str)) = false := by decide) :
    PE X (.Call (.Name x p) [] [] pos) (tMake C sp dvs E0 tNil) := by
  obtain ⟨f, fd, ps, ds, M, F, hm, b, d⟩ := c.ex
  exact pe_make0 M F (hr.mono hk) hg hm b d pass0 hdb
/-! ## o[i] = v by an own __setitem__ -/
def rSetO (C : Addr) (sp : Sp) : TSet := fun o i v H Q => ∃ a dx fs, o = .ref a ∧ H a = some (.ins C dx fs) ∧ sp [.ref a, i, v] H (fun _ H' => Q H') E0
theorem set_own {X : Cx} {k j : Nat} {C : Addr} {sp : Sp} (c : C8.Met X.prog X.w X.K X.mg X.base k C "__setitem__" sp []) (nq : PySem.W.noSeq X.K C = true) (hr : Room j X.A) (hk : k ≤ j) : PSet X (rSetO C sp) := by
  intro pins s σ H o i v ov iv u Q I ro ri rv h
  obtain ⟨a, dx, fs, rfl, ea, q⟩ := h
  cases (show ov = Value.ref a from ro)
  obtain ⟨f, fd, ps, ds, hc, hm, F, b, d⟩ := c.ex
  cases d
  obtain ⟨mA, O, _⟩ := ins_get I.hok ea
  obtain ⟨od, J, _⟩ := O.look
  obtain ⟨m, Fm⟩ := I.fr
  refine PySem.W.ksp_setItem Fm I.ok.mod.kin J nq hm.at_ hm.fn ?_
  exact thn (run_fn (us := [.ref a, iv, u]) (vs := [.ref a, i, v]) F (hr.mono hk) b .nil pass0 I (.cons rfl (.cons ri (.cons rv .nil))) q) fun _ s' ⟨_, H', I', _, q'⟩ => ⟨H', I', q'⟩
/-! ## enumerate(text) -/
def Ites (z : Str) : It := ⟨fun i _ => i < z.cps.size, fun i H v H' => ∃ T c, v = .ref T ∧ H T = none ∧ H' = upd H T (.tup [.int (i : Nat), .str ⟨#[c]⟩]) ∧ z.cps[i]? = some c, fun i _ => z.cps.size ≤ i⟩
theorem turn_enumS {P : Program} {w : World} {K : PySem.W.Frag} {elts : List Expr} {kk : Nat} {tpos : Pos} (z : Str) (t : Tok) (e it : Addr) :
    Turn P w K (.Tuple elts kk tpos) (Ites z) [e, it] e (fun i h => (∃ old, IsEnum h e it ((i : Nat) : Int) old) ∧ h.IsStrIter it (strIterType z) z t i ∧ e ≠ it ∧ i ≤ z.cps.size) where
  mem := by simp
  obj := fun i h st b hb => by
    obtain ⟨⟨old, he⟩, ⟨o, ho, hc, hd⟩, _⟩ := st
    rcases (show b = e ∨ b = it by simpa using hb) with q | q
    · exact q ▸ ⟨_, he, fun v q => nomatch q⟩
    · exact q ▸ ⟨o, ho, fun v q => by rw [hd] at q; cases q⟩
  keep := fun i h h' st k => let ⟨⟨old, he⟩, ⟨o, ho, r⟩, hne, hl⟩ := st; ⟨⟨old, k e (by simp) _ he⟩, ⟨o, k it (by simp) o ho, r⟩, hne, hl⟩
  item := by
    intro X hP hw hK hc i pins s σ H E I hf st hg
    subst hP hw hK
    obtain ⟨⟨old, he⟩, hit, hne, hl⟩ := st
    have D := Draws.text (prog := X.prog) (w := X.w) (A := X.A.in1) (I.ok.hd hc) it z t
    have hel : e < s.heap.objs.size := Heap.lt_size he
    have hil : it < s.heap.objs.size := let ⟨_, q, _⟩ := hit; Heap.lt_size q
    refine wpAny_pyNext_enum_itemD D he hit hg hne (by simpa using hne) fun v h' tk hv ho hit' hT hsz hk => ?_
    obtain ⟨c, u, hcx, rfl⟩ := hv
    refine ⟨_, rfl, wpAny_letOwnedTupleGo_enum (s := { s with heap := h', toks := tk + 1 }) ho fun h'' he' sb => ?_⟩
    have hT2 := (sb.2 _ (Nat.ne_of_gt hel)).trans hT
    have new : ObjOk X.prog X.w (upd H s.heap.objs.size (.tup [.int (i : Nat), .str ⟨#[c]⟩])) h'' s.heap.objs.size (.tup [.int (i : Nat), .str ⟨#[c]⟩]) :=
      ⟨by show 2 ≤ sizeLine; decide, _, .cons ⟨_, rfl⟩ (.cons ⟨_, rfl⟩ .nil), ⟨_, hT2, rfl, _, rfl⟩⟩
    have I1 := I.turnedNew (h' := h'') (t' := tk + 1) (ch := [e, it]) (fun b ob hb q => (sb.2 b (fun y => hb (by simp [y]))).trans (hk b ob (fun y => hb (by simp [y])) (fun y => hb (by simp [y])) q)) hf (Nat.le_refl _) new
    refine ⟨.ref s.heap.objs.size, _, I1, rfl, ⟨_, c, rfl, I.hok.fresh (Nat.le_refl _), rfl, hcx⟩, ⟨⟨_, (by rw [show ((i + 1 : Nat) : Int) = (i : Int) + 1 by omega]; exact he')⟩, ?_, hne, hg⟩, fun b hb => ?_⟩
    · obtain ⟨o, q, r⟩ := hit'
      exact ⟨o, (sb.2 it (Ne.symm hne)).trans q, r⟩
    · have hb' : b < s.heap.objs.size := by
        rcases (show b = e ∨ b = it by simpa using hb) with q | q
        · rw [q]; exact hel
        · rw [q]; exact hil
      rw [upd_ne (Nat.ne_of_lt hb')]
      exact (hf b hb).1
  done := by
    intro X hP hw hK hc i pins s σ H E I hf st hg
    subst hP hw hK
    obtain ⟨⟨old, he⟩, hit, hne, hl⟩ := st
    have ei : i = z.cps.size := Nat.le_antisymm hl hg
    have D := Draws.text (prog := X.prog) (w := X.w) (A := X.A.in1) (I.ok.hd hc) it z t
    obtain ⟨f0, f1, f2, f3, f4, f5⟩ := hf it (by simp)
    exact wpAny_pyNext_enum_endD D he (ei ▸ hit) fun h' eb => ⟨rfl, I.turned (t' := s.toks) (fun b o hb q => eb b o hb q) f0 f1 f3 f4 f5⟩
  self := fun A i s Q E st h => let ⟨⟨_, he⟩, _⟩ := st; wpAny_pyIter_enum he h
def iEnumS (ta : TA) : TI := fun σ H R => ta σ H fun vs H1 => ∃ z, vs = [.str z] ∧ R (Ites z) H1
theorem pi_enumS {X : Cx} {e : Expr} {ta : TA} {p pos tpos : Pos} {elts : List Expr} {kk : Nat} (hg : Gl X "enumerate") (hm : X.mg "enumerate" = none) (ha : PA X [e] ta) (hs : starEach [e] X.env = [(false, eval e X.env)] := by rfl) :
    PI X (.Tuple elts kk tpos) (.Call (.Name "enumerate" p) [e] [] pos) (iEnumS ta) := by
  refine ⟨fun pins s σ H R I h => Call_ (ld_blt I hg hm boot_enumerate (PyProof.Rows.callWith_type1 (thn (ha.run pos pins s σ H _ I h) fun us s1 ⟨vs, H1, I1, r1, q1⟩ => ?_) hs rfl))⟩
  obtain ⟨z, rfl, q⟩ := q1
  obtain ⟨u, rfl, t, rfl⟩ := vals1 r1
  refine call_enumerate_str fun h' he hit hsz hk => wpAny_pyIter_enum he ?_
  have I2 : Inv X pins σ H1 { s1 with heap := h' } := I1.kept (t' := s1.toks) hk
  refine ⟨s1.heap.objs.size + 1, [s1.heap.objs.size + 1, s1.heap.objs.size], _, _, H1, rfl, I2, turn_enumS z t _ _, ⟨⟨.none, he⟩, hit, Nat.succ_ne_self _, Nat.zero_le _⟩, fun b hb => ?_, q⟩
  have hle : s1.heap.objs.size ≤ b := by
    rcases (show b = s1.heap.objs.size + 1 ∨ b = s1.heap.objs.size by simpa using hb) with y | y
    · rw [y]; exact Nat.le_add_right _ _
    · rw [y]; exact Nat.le_refl _
  exact I1.fpOk hle (I1.hok.fresh hle)
theorem walk_enumS {z : Str} : Walk (Ites z) z.cps.size (fun _ => True) (YPair (fun i => some (.int (i : Nat))) (fun i => (z.cps[i]?).map fun c => V.str ⟨#[c]⟩)) :=
  ⟨fun _ _ hi _ => hi, fun _ _ => Nat.le_refl _, fun i H v H' _ _ y => let ⟨T, c, h1, h2, h3, h4⟩ := y; ⟨T, _, _, h1, h2, h3, rfl, by show Option.map _ z.cps[i]? = _; rw [h4]; rfl⟩⟩
end Eb
set_option maxHeartbeats 4000000
namespace Eb
open PySem PySem.Spec PyProof.Rows L2
/-! ## texts as lists of signs -/
def tx (l : List Nat) : Str := ⟨l.toArray⟩
theorem tx_list (l : List Nat) : (tx l).cps.toList = l := by simp [tx]
theorem tx_of (z : Str) : tx z.cps.toList = z := by simp [tx]
theorem tx_size (l : List Nat) : (tx l).cps.size = l.length := by simp [tx]
theorem tx_len (l : List Nat) : (tx l).length = l.length := tx_size l
theorem tx_get (l : List Nat) (i : Nat) : (tx l).cps[i]? = l[i]? := by simp [tx]
theorem tx_app (a b : List Nat) : tx a ++ tx b = tx (a ++ b) := by
  show Str.append (tx a) (tx b) = _
  simp [Str.append, tx]
theorem tx_inj {a b : List Nat} (h : tx a = tx b) : a = b := by rw [← tx_list a, h, tx_list]
theorem tx_eq {a b : List Nat} : tx a = tx b ↔ a = b := ⟨tx_inj, fun h => by rw [h]⟩
theorem tx_ex (z : Str) : ∃ l, z = tx l := ⟨_, (tx_of z).symm⟩
theorem tx_nil : (PySem.Str.ofString "" : Str) = tx [] := by decide +kernel
theorem cut_to (l : List Nat) (k : Nat) : cutS (tx l) none (some (k : Int)) = tx (l.take k) := by
  unfold cutS
  rw [tx_list, HT.sIx_none, HT.sIx_nat, tx_len, List.drop_zero, Nat.sub_zero]
  show tx _ = tx _
  rw [tx_eq]
  by_cases h : k ≤ l.length
  · rw [Nat.min_eq_left h]
  · rw [Nat.min_eq_right (by omega), List.take_of_length_le (Nat.le_refl _), List.take_of_length_le (by omega)]
theorem cut_from (l : List Nat) (k : Nat) : cutS (tx l) (some (k : Int)) none = tx (l.drop k) := by
  unfold cutS
  rw [tx_list, HT.sIx_none, HT.sIx_nat, tx_len]
  show tx _ = tx _
  rw [tx_eq]
  by_cases h : k ≤ l.length
  · rw [Nat.min_eq_left h, List.take_of_length_le (by rw [List.length_drop]; exact Nat.le_refl _)]
  · rw [Nat.min_eq_right (by omega), List.drop_eq_nil_of_le (Nat.le_refl _), List.drop_eq_nil_of_le (by omega), List.take_nil]
theorem txt_join (sep : Str) (l : List Str) : Txt.join sep l = Str.join sep l := by
  have h := join_plain_closes sep l
  simpa using h
theorem join3 (a b c : List Nat) : Txt.join (PySem.Str.ofString "") [tx a, tx b, tx c] = tx (a ++ b ++ c) := by
  rw [txt_join, tx_nil]
  show tx a ++ tx [] ++ (tx b ++ tx [] ++ tx c) = _
  rw [tx_app, tx_app, tx_app, tx_app, tx_eq]
  simp
/-- one sign after another -/
theorem join_signs : ∀ l : List Nat, Txt.join (PySem.Str.ofString "") (l.map fun c => tx [c]) = tx l := by
  intro l
  rw [txt_join, tx_nil]
  induction l with
  | nil => rfl
  | cons c r ih =>
    cases r with
    | nil => rfl
    | cons c2 r =>
      show tx [c] ++ tx [] ++ Str.join (tx []) ((c2 :: r).map fun c => tx [c]) = _
      rw [ih, tx_app, tx_app, tx_eq]
      rfl
/-- the digits of a count -/
def dig (n : Nat) : List Nat := (PySem.Str.ofString (toString (n : Int))).cps.toList
theorem dig_eq (n : Nat) : (PySem.Str.ofString (toString (n : Int)) : Str) = tx (dig n) := (tx_of _).symm
theorem dig_len (n : Nat) : (dig n).length = (Nat.repr n).length := by
  unfold dig
  rw [PySem.Str.ofString_eq_toList]
  show (((toString (n : Int)).toList.map Char.toNat).toArray.toList).length = _
  rw [List.toList_toArray, List.length_map]
  rfl
theorem dig_le {n k : Nat} (hk : 0 < k) (h : n < 2 ^ k) : (dig n).length ≤ k := by
  rw [dig_len]; exact nat_repr_length_le hk h
/-- a list with just one hash -/
theorem one_hash : ∀ {l : List Nat}, (l.filter (· != 35)).length + 1 = l.length → ∃ A B, l = A ++ 35 :: B ∧ A.all (· != 35) = true ∧ B.all (· != 35) = true ∧ l.filter (· != 35) = A ++ B
  | [], h => by simp at h
  | c :: r, h => by
    by_cases e : c = 35
    · subst e
      have h2 : (r.filter (· != 35)).length = r.length := by simpa using h
      have h3 : r.filter (· != 35) = r := List.filter_eq_self.mpr (List.length_filter_eq_length_iff.mp h2)
      exact ⟨[], r, rfl, rfl, List.all_eq_true.mpr (List.length_filter_eq_length_iff.mp h2), by simpa using h3⟩
    · have ne : (c != 35) = true := by simpa using e
      have fc : ∀ q : List Nat, (c :: q).filter (· != 35) = c :: q.filter (· != 35) := fun q => List.filter_cons_of_pos (p := (· != 35)) ne
      rw [fc] at h
      obtain ⟨A, B, h1, h2, h3, h4⟩ := one_hash (l := r) (by simpa using h)
      exact ⟨c :: A, B, by rw [h1]; rfl, by simp [h2, e], h3, by rw [fc, h4]; rfl⟩
theorem hash_eq : ((PySem.Str.ofString "#") : Str) = ⟨#[35]⟩ := by decide +kernel
theorem split_uniq : ∀ {A p B q : List Nat}, (∀ c ∈ A, c ≠ 35) → (∀ c ∈ B, c ≠ 35) → p ++ 35 :: q = A ++ 35 :: B → p = A ∧ q = B
  | [], [], B, q, _, _, h => ⟨rfl, by simpa using h⟩
  | [], c :: p, B, q, _, hB, h => by
    have h2 : c = 35 ∧ p ++ 35 :: q = B := by simpa using h
    exact absurd rfl (hB 35 (by rw [← h2.2]; simp))
  | a :: A, [], B, q, hA, _, h => by
    have h2 : 35 = a := (List.cons.inj (show 35 :: q = a :: (A ++ 35 :: B) from h)).1
    exact absurd h2.symm (hA a (by simp))
  | a :: A, c :: p, B, q, hA, hB, h => by
    have h2 : c = a ∧ p ++ 35 :: q = A ++ 35 :: B := by simpa using h
    obtain ⟨e1, e2⟩ := split_uniq (fun x hx => hA x (List.mem_cons_of_mem _ hx)) hB h2.2
    exact ⟨by rw [h2.1, e1], e2⟩
theorem cnt_zero : ∀ {l : List Nat}, (∀ c ∈ l, c ≠ 35) → cnt 35 l = 0
  | [], _ => rfl
  | c :: r, h => by
    have ih := cnt_zero (l := r) fun x hx => h x (List.mem_cons_of_mem _ hx)
    have hc := h c (by simp)
    rw [cnt_cons, ih, if_neg hc]; rfl
theorem cnt_one : ∀ {A B : List Nat}, (∀ c ∈ A, c ≠ 35) → (∀ c ∈ B, c ≠ 35) → cnt 35 (A ++ 35 :: B) = 1
  | [], B, _, hB => by
    show cnt 35 (35 :: B) = 1
    rw [cnt_cons, cnt_zero hB, if_pos rfl]; rfl
  | a :: A, B, hA, hB => by
    have ih := cnt_one (A := A) (fun x hx => hA x (List.mem_cons_of_mem _ hx)) hB
    have ha := hA a (by simp)
    show cnt 35 (a :: (A ++ 35 :: B)) = 1
    rw [cnt_cons, ih, if_neg ha]; rfl
theorem split_none {l : List Nat} (h : ∀ c ∈ l, c ≠ 35) : Txt.split (tx l) (PySem.Str.ofString "#") = [tx l] := by
  have e1 := split_len (tx l) 35
  have e2 := StrLaws.join_split (tx l) ⟨#[35]⟩
  rw [tx_list, cnt_zero h] at e1
  rw [hash_eq]
  match hx : Txt.split (tx l) ⟨#[35]⟩ with
  | [] => rw [hx] at e1; simp at e1
  | [a] => rw [hx] at e2; exact congrArg (fun z => [z]) e2
  | a :: b :: r => rw [hx] at e1; simp at e1; omega
theorem split_two {A B : List Nat} (hA : ∀ c ∈ A, c ≠ 35) (hB : ∀ c ∈ B, c ≠ 35) : Txt.split (tx (A ++ 35 :: B)) (PySem.Str.ofString "#") = [tx A, tx B] := by
  have e1 := split_len (tx (A ++ 35 :: B)) 35
  have e2 := StrLaws.join_split (tx (A ++ 35 :: B)) ⟨#[35]⟩
  rw [tx_list, cnt_one hA hB] at e1
  rw [hash_eq]
  match hx : Txt.split (tx (A ++ 35 :: B)) ⟨#[35]⟩ with
  | [] => rw [hx] at e1; simp at e1
  | [a] => rw [hx] at e1; simp at e1
  | [a, b] =>
    rw [hx] at e2
    obtain ⟨p, rfl⟩ := tx_ex a
    obtain ⟨q, rfl⟩ := tx_ex b
    have e3 : tx p ++ tx [35] ++ tx q = tx (A ++ 35 :: B) := e2
    rw [tx_app, tx_app, tx_eq] at e3
    obtain ⟨h1, h2⟩ := split_uniq (p := p) (q := q) hA hB (by simpa using e3)
    rw [h1, h2]
  | a :: b :: c :: r => rw [hx] at e1; simp at e1; omega
theorem putF_le (f : Str) (v : V) : ∀ fs : List (Str × V), (putF f v fs).length ≤ fs.length + 1
  | [] => Nat.le_refl _
  | (g, x) :: r => by
    unfold putF
    split
    · simp
    · have := putF_le f v r
      simp only [List.length_cons]
      omega
theorem putF_lt {f : Str} {v : V} {fs : List (Str × V)} (n : Nat) (h : fs.length ≤ n) (hn : n < 900) : (putF f v fs).length < 1000 := by have := putF_le f v fs; omega
theorem putF_n {f : Str} {v : V} {fs : List (Str × V)} {n : Nat} (h : fs.length ≤ n) : (putF f v fs).length ≤ n + 1 := by have := putF_le f v fs; omega
/-! ## how long repr's text is -/
structure Sh (d : PyData) (n k : Nat) : Prop where
  sh : d.showable = true
  nd : d.hasDict = false
  sz : d.shown.length ≤ n
  dp : d.depth ≤ k
structure ShA (ds : List PyData) (n k : Nat) : Prop where
  sh : PyData.showableAll ds = true
  nd : PyData.hasDictAll ds = false
  sz : ((PyData.shownAll ds).map (·.length)).sum ≤ n
  dp : PyData.depthAll ds ≤ k
theorem Sh.le {d : PyData} {n k m j : Nat} (h : Sh d n k) (h1 : n ≤ m) (h2 : k ≤ j) : Sh d m j := ⟨h.sh, h.nd, Nat.le_trans h.sz h1, Nat.le_trans h.dp h2⟩
theorem sh_none : Sh .none 4 1 := ⟨rfl, rfl, by decide +kernel, by decide⟩
theorem sh_bool (b : Bool) : Sh (.bool b) 5 1 := by cases b <;> exact ⟨rfl, rfl, by decide +kernel, by decide⟩
theorem sh_int (i : Nat) {k : Nat} (hk : 0 < k) (hk2 : k ≤ 1900) (h : i < 2 ^ k) : Sh (.int (i : Int)) k 1 := by
  refine ⟨?_, rfl, ?_, by simp [PyData.depth]⟩
  · show decide _ = true
    refine decide_eq_true ?_
    rw [Int.natAbs_natCast]
    by_cases h0 : i = 0
    · subst h0; decide
    · exact Nat.lt_of_lt_of_le ((Nat.log2_lt h0).mpr h) (by omega)
  · have e := dig_le hk h
    unfold dig at e
    rw [Array.length_toList] at e
    exact e
theorem sh_str (z : Str) (h : ∀ c ∈ z.cps.toList, c < 128) : Sh (.str z) (10 * z.length + 2) 1 := ⟨rfl, rfl, StrLaws.reprText_len z fun c hc => Nat.lt_of_lt_of_le (h c hc) (by decide), by simp [PyData.depth]⟩
theorem sha_nil : ShA [] 0 0 := ⟨rfl, rfl, by decide, by simp [PyData.depthAll]⟩
theorem sha_cons {d : PyData} {ds : List PyData} {n m k j : Nat} (h : Sh d n k) (t : ShA ds m j) : ShA (d :: ds) (n + m) (max k j) := by
  refine ⟨?_, ?_, ?_, ?_⟩
  · simp [PyData.showableAll, h.sh, t.sh]
  · simp [PyData.hasDictAll, h.nd, t.nd]
  · simp only [PyData.shownAll, List.map_cons, List.sum_cons]
    have := h.sz; have := t.sz; omega
  · simp only [PyData.depthAll]
    have := h.dp; have := t.dp; omega
theorem shownAll_length : ∀ ds : List PyData, (PyData.shownAll ds).length = ds.length
  | [] => rfl
  | d :: ds => by simp only [PyData.shownAll, List.length_cons, shownAll_length ds]
theorem sh_list {ds : List PyData} {n k : Nat} (h : ShA ds n k) : Sh (.list ds) (n + 2 * ds.length + 3) (k + 1) := by
  refine ⟨h.sh, h.nd, ?_, ?_⟩
  · have := listText_len_le (PyData.shownAll ds)
    rw [shownAll_length] at this
    have := h.sz
    show (listText (PyData.shownAll ds)).length ≤ _
    omega
  · simp only [PyData.depth]; have := h.dp; omega
theorem sh_tup {ds : List PyData} {n k : Nat} (h : ShA ds n k) : Sh (.tuple ds) (n + 2 * ds.length + 3) (k + 1) := by
  refine ⟨h.sh, h.nd, ?_, ?_⟩
  · have := tupleText_len_le (PyData.shownAll ds)
    rw [shownAll_length] at this
    have := h.sz
    show (tupleText (PyData.shownAll ds)).length ≤ _
    omega
  · simp only [PyData.depth]; have := h.dp; omega
theorem Sh.showy {d : PyData} {n k : Nat} (h : Sh d n k) (h1 : n ≤ 1000000) (h2 : k ≤ 100) : Showy d := ⟨h.sh, h.nd, Nat.le_trans h.sz (Nat.le_trans h1 (by decide)), Nat.le_trans h.dp h2⟩
end Eb
set_option maxHeartbeats 4000000
namespace Eb
open PySem PySem.Spec PyProof.Rows L2
/-! ## comparing instances by their own methods -/
/-- both are instances of the class at C; the method answers with a bool -/
def rCmpO (C : Addr) (sp : Sp) : R2 := fun x y H Q => ∃ a dx fs b dy gs, x = .ref a ∧ y = .ref b ∧ H a = some (.ins C dx fs) ∧ H b = some (.ins C dy gs) ∧ sp [.ref a, .ref b] H (fun v H' => (∃ z, v = .bl z) ∧ Q v H') E0
theorem op_cmpO {X : Cx} {op : CmpOp} {k j : Nat} {C : Addr} {m : Str} {sp : Sp} (c : C8.Met X.prog X.w X.K X.mg X.base k C m sp []) (hm' : (cmpInfo op).2.1 = m) (hop : ∀ v u, compareOp op v u = richCompare op v u) (hr : Room j X.A) (hk : k ≤ j) : OpR X (compareOp op) (rCmpO C sp) := by
  intro pins s σ H x y v u Q I rx ry h
  obtain ⟨a, dx, fs, b, dy, gs, rfl, rfl, ea, eb, q⟩ := h
  cases (show v = Value.ref a from rx)
  cases (show u = Value.ref b from ry)
  obtain ⟨f, fd, ps, ds, hc, hm, F, bd, d⟩ := c.ex
  cases d
  obtain ⟨mA, O, _⟩ := ins_get I.hok ea
  obtain ⟨od, J, _⟩ := O.look
  obtain ⟨mB, O', _⟩ := ins_get I.hok eb
  obtain ⟨od', J', _⟩ := O'.look
  obtain ⟨m, Fm⟩ := I.fr
  rw [hop]
  refine PySem.W.cmp_K (op := op) (tb := .ref C) hr.units0 Fm I.ok.mod.kin J J'.type (by simp [PySem.W.notFirst]) (by rw [hm']; exact hm.at_) hm.fn ?_
  refine thn (run_fn (us := [.ref a, .ref b]) (vs := [.ref a, .ref b]) F (hr.mono hk) bd .nil pass0 I (.cons rfl (.cons rfl .nil)) q) fun w s' ⟨v', H', I', rv, ⟨z, hz⟩, q'⟩ => ?_
  subst hz
  cases (show w = Value.bool z from rv)
  exact ⟨.bl z, H', I', rfl, q'⟩
/-- an instance on the left, a text on the right -/
def rCmpOS (C : Addr) (sp : Sp) : R2 := fun x y H Q => ∃ a dx fs t, x = .ref a ∧ y = .str t ∧ H a = some (.ins C dx fs) ∧ sp [.ref a, .str t] H (fun v H' => (∃ z, v = .bl z) ∧ Q v H') E0
theorem notFirst_str (K : PySem.W.Frag) (C : Addr) : PySem.W.notFirst K C (.type "str") = true := by
  unfold PySem.W.notFirst PySem.W.subIn
  rfl
theorem op_cmpOS {X : Cx} {op : CmpOp} {k j : Nat} {C : Addr} {m : Str} {sp : Sp} (c : C8.Met X.prog X.w X.K X.mg X.base k C m sp []) (hm' : (cmpInfo op).2.1 = m) (hop : ∀ v u, compareOp op v u = richCompare op v u) (hr : Room j X.A) (hk : k ≤ j) : OpR X (compareOp op) (rCmpOS C sp) := by
  intro pins s σ H x y v u Q I rx ry h
  obtain ⟨a, dx, fs, t, rfl, rfl, ea, q⟩ := h
  cases (show v = Value.ref a from rx)
  obtain ⟨tk, rfl⟩ := (show ∃ tk, u = Value.str t tk from ry)
  obtain ⟨f, fd, ps, ds, hc, hm, F, bd, d⟩ := c.ex
  cases d
  obtain ⟨mA, O, _⟩ := ins_get I.hok ea
  obtain ⟨od, J, _⟩ := O.look
  obtain ⟨m, Fm⟩ := I.fr
  rw [hop]
  refine PySem.W.cmp_K (op := op) (tb := .type "str") hr.units0 Fm I.ok.mod.kin J (PySem.W.Looks.of_pure rfl) (notFirst_str _ _) (by rw [hm']; exact hm.at_) hm.fn ?_
  refine thn (run_fn (us := [.ref a, .str t tk]) (vs := [.ref a, .str t]) F (hr.mono hk) bd .nil pass0 I (.cons rfl (.cons ⟨tk, rfl⟩ .nil)) q) fun w s' ⟨v', H', I', rv, ⟨z, hz⟩, q'⟩ => ?_
  subst hz
  cases (show w = Value.bool z from rv)
  exact ⟨.bl z, H', I', rfl, q'⟩
/-- a text on the left, an instance on the right: the reflected own == -/
def rEqSO (C : Addr) (sp : Sp) : R2 := fun x y H Q => ∃ a dx fs t, x = .str t ∧ y = .ref a ∧ H a = some (.ins C dx fs) ∧ sp [.ref a, .str t] H (fun v H' => (∃ z, v = .bl z) ∧ Q v H') E0
theorem str_eq_declines_inst (b : Str) (u : Tok) (l C dx : Addr) :
    Meets (Builtin.«str.__eq__» ⟨[.str b u, .ref l], []⟩) (fun _ R s => s.heap.get? l = some (PySem.W.instObj C dx) ∧ R (.ok (.ret .notImplemented)) s) :=
  .of_wp fun prog w A R s h => by obtain ⟨hp, g, d, tk, os⟩ := s; obtain ⟨hl, h⟩ := h; wp_walk using wpAny_loadPart' hl, wpAny_load hl; exact ⟨_, rfl, h⟩
theorem op_eqSO {X : Cx} {k j : Nat} {C : Addr} {sp : Sp} (c : C8.Met X.prog X.w X.K X.mg X.base k C "__eq__" sp []) (hs : PySem.W.subIn X.K (.ref C) (.type "str") = some false) (hr : Room j X.A) (hk : k ≤ j) : OpR X (compareOp .Eq) (rEqSO C sp) := by
  intro pins s σ H x y v u Q I rx ry h
  obtain ⟨a, dx, fs, t, rfl, rfl, ea, q⟩ := h
  cases (show u = Value.ref a from ry)
  obtain ⟨tk, rfl⟩ := (show ∃ tk, v = Value.str t tk from rx)
  obtain ⟨f, fd, ps, ds, hc, hm, F', bd, d⟩ := c.ex
  cases d
  obtain ⟨mA, O, _⟩ := ins_get I.hok ea
  obtain ⟨od, J, _⟩ := O.look
  obtain ⟨m, Fm⟩ := I.fr
  have KX := I.kIn
  show wpAny (model X.prog X.w) X.A (richCompare .Eq (.str t tk) (.ref a)) (EP X pins σ Q) X.xe s
  unfold richCompare
  refine wpAny_holding (wpAny_bind (wpAny_cRoomFor hr.units0 ?_))
  refine wpAny_bind ((PySem.W.Looks.of_pure rfl : PySem.W.Looks (model X.prog X.w) s.heap (typeOf (.str t tk)) (.type "str")).here (wpAny_bind (J.type.here ?_)))
  refine wpAny_bind ((PySem.W.looks_subIn KX hs).here ?_)
  simp only [Bool.false_eq_true, if_false]
  have one : ∀ {R : Option Value → Shared → Prop}, R none s → wpAny (model X.prog X.w) X.A (tryCompare (.str t tk) (cmpInfo .Eq).2.1 (.ref a)) R X.xe s := fun {R} hR => by
    unfold tryCompare
    refine wpAny_bind (wpAny_callSpecialIfBound?_slot (T := "str") (typeIs_str s t tk) F.slot_str_eq ?_)
    refine call_meets F.slot_str_eq (typeIs_str s t tk) F.entry_str_eq (F.args_str_eq_2 _ _) (str_eq_declines_inst t tk a C dx) ⟨J.at_, ?_⟩
    exact wpAny_pure hR
  refine wpAny_bind (one ?_)
  simp only [Bool.not_false, if_true]
  have two : wpAny (model X.prog X.w) X.A (tryCompare (.ref a) (cmpInfo .Eq).2.2 (.str t tk)) (fun r s' => ∃ z, r = some z ∧ EP X pins σ Q z s') X.xe s := by
    unfold tryCompare
    refine wpAny_bind (PySem.W.ifBound_K KX J hm.at_ hm.fn ?_)
    refine thn (run_fn (us := [.ref a, .str t tk]) (vs := [.ref a, .str t]) F' (hr.mono hk) bd .nil pass0 I (.cons rfl (.cons ⟨tk, rfl⟩ .nil)) q) fun w s' ⟨v', H', I', rv, ⟨z, hz⟩, q'⟩ => ?_
    subst hz
    cases (show w = Value.bool z from rv)
    exact wpAny_pure ⟨_, rfl, .bl z, H', I', rfl, q'⟩
  refine wpAny_bind (thn two fun r s' ⟨z, hz, h⟩ => ?_)
  subst hz
  exact wpAny_pure h
/-! ## != by an own == -/
theorem on_slot : Slot "object" "__ne__" "object.__ne__" :=
  Slot.of (T := "object") (name := "__ne__") (owner := "object") (n := "__ne__") (id := "object.__ne__") (by rw [typeLookup_type, builtinLookup_eq_fast]; kernel_rfl) (by decide +kernel) (by decide +kernel) (by decide +kernel) (.inl (by decide +kernel)) (by rw [isSubtype_type]; kernel_rfl)
def rNeO (C : Addr) (sp : Sp) : R2 := fun x y H Q => ∃ a dx fs b dy gs, x = .ref a ∧ y = .ref b ∧ H a = some (.ins C dx fs) ∧ H b = some (.ins C dy gs) ∧ sp [.ref a, .ref b] H (fun v H' => ∃ z, v = .bl z ∧ Q (.bl (!z)) H') E0
theorem op_neO {X : Cx} {k j : Nat} {C : Addr} {sp : Sp} (c : C8.Met X.prog X.w X.K X.mg X.base k C "__eq__" sp []) (hn : PySem.W.findIn X.K (.ref C) "__ne__" = some (some (.builtin "object.__ne__"))) (ho : PySem.W.mroIn X.K C (.type "object") = some true) (hr : Room j X.A) (hk : k + 1 ≤ j) : OpR X (compareOp .NotEq) (rNeO C sp) := by
  intro pins s σ H x y v u Q I rx ry h
  obtain ⟨a, dx, fs, b, dy, gs, rfl, rfl, ea, eb, q⟩ := h
  cases (show v = Value.ref a from rx)
  cases (show u = Value.ref b from ry)
  obtain ⟨f, fd, ps, ds, hc, hm, F', bd, d⟩ := c.ex
  cases d
  obtain ⟨mA, O, _⟩ := ins_get I.hok ea
  obtain ⟨od, J, _⟩ := O.look
  obtain ⟨mB, O', _⟩ := ins_get I.hok eb
  obtain ⟨od', J', _⟩ := O'.look
  have KX := I.kIn
  have rm : Room k X.A.in1 := (hr.mono hk).in1
  have cal : wpAny (model X.prog X.w) X.A.in1 (call (.ref f) [.ref a, .ref b]) (fun v s' => ∃ z, v = .bool z ∧ EP X pins σ Q (.bool (!z)) s') X.xe s := by
    have e0 : Env0 X.prog X.w X.K X.mg X.base X.A.in1 X.stack s H := by
      have e := I.env0
      exact ⟨e.frames, e.mod, e.bs, e.bsz, e.funs, e.frf, e.hok, e.bare⟩
    have hl := F'.len _ _ _ _ q
    have r2 : Vals [V.ref a, V.ref b] [Value.ref a, Value.ref b] := .cons rfl (.cons rfl .nil)
    refine wpAny_call (codeAny_mono (F'.run X.A.in1 X.stack s H ⟨[.ref a, .ref b], []⟩ [.ref a, .ref b] [.ref a, .ref b] _ E0 rm e0 (by
      have := bd s [.ref a, .ref b] I.kIn (by simpa using hl)
      simpa using this) r2 q) fun r s' hq => ?_)
    cases r with
    | error e => exact pass0 pins σ H s e s' I hq
    | ok fl =>
      cases fl with
      | ret w =>
        obtain ⟨z, H', I', rz, bz, ez, ex⟩ := I.after hq
        subst ez
        cases (show w = Value.bool bz from rz)
        exact ⟨bz, rfl, .bl (!bz), H', I', rfl, ex⟩
      | next => exact False.elim hq
      | brk => exact False.elim hq
      | cont => exact False.elim hq
  show wpAny (model X.prog X.w) X.A (richCompare .NotEq (.ref a) (.ref b)) (EP X pins σ Q) X.xe s
  unfold richCompare
  simp only [oneThing_ref]
  refine wpAny_holding (wpAny_bind (wpAny_cRoomFor hr.units0 ?_))
  refine wpAny_bind (J.type.here (wpAny_bind (J'.type.here ?_)))
  rw [show (Value.ref C != Value.ref C) = false from by simp]
  simp only [Bool.false_eq_true, if_false]
  refine wpAny_bind (wpAny_pure ?_)
  simp only [Bool.false_eq_true, if_false]
  have one : wpAny (model X.prog X.w) X.A (tryCompare (.ref a) (cmpInfo .NotEq).2.1 (.ref b)) (fun r s' => ∃ z, r = some z ∧ EP X pins σ Q z s') X.xe s := by
    unfold tryCompare
    refine wpAny_bind ?_
    simp only [callSpecialIfBound?, bindSpecialIfBound?]
    refine wpAny_holding (wpAny_bind (wpAny_bind (wpAny_bind (J.type.here ((PySem.W.looks_findIn KX hn).here ?_)))))
    simp only [on_slot.bind]
    refine wpAny_bind (wpAny_askSetting (wpAny_ite ?_))
    have cl : wpAny (model X.prog X.w) X.A (call (.builtin "object.__ne__") [.ref a, .ref b]) (fun v s' => ∃ z, v = .bool z ∧ EP X pins σ Q (.bool z) s') X.xe s := by
      refine wpAny_call (codeAny_call_builtin on_slot.plain F.cmpEntry_ne (PySem.W.check_slot F.cmpKind_ne F.cmpSplit_ne (J.type.andThen (PySem.W.looks_mroIn KX ho)) (F.cmpArgs_ne _ _) ?_))
      unfold Builtin.«object.__ne__»
      refine wpAny_bind (wpAny_pure ?_)
      refine wpAny_bind (wpAny_cRoomFor rm.units0 ?_)
      refine wpAny_bind (PySem.W.ifBound_K KX J hm.at_ hm.fn (thn cal fun v s' ⟨z, hz, hq⟩ => ?_))
      subst hz
      refine wpAny_bind (wpAny_truthy_bool ?_)
      exact wpAny_pure ⟨_, rfl, hq⟩
    have fin : wpAny (model X.prog X.w) X.A (call (.builtin "object.__ne__") ([.ref a] ++ [.ref b]) >>= fun v => pure (some v)) (fun r s' => wpAny (model X.prog X.w) X.A (match r with
        | some .notImplemented | none => pure none
        | some v => pure (some v)) (fun r s' => ∃ z, r = some z ∧ EP X pins σ Q z s') X.xe s') X.xe s := by
      refine wpAny_bind (thn cl fun v s' ⟨z, hz, hq⟩ => wpAny_pure ?_)
      subst hz
      exact wpAny_pure ⟨_, rfl, hq⟩
    split
    · exact wpAny_bind (wpAny_pure (wpAny_pure fin))
    · exact wpAny_tryCatch (wpAny_bind (wpAny_pure (wpAny_pure fin)))
  refine wpAny_bind (thn one fun r s' ⟨z, hz, h⟩ => ?_)
  subst hz
  exact wpAny_pure h
/-! ## text * n -/
theorem rep_fold (l : List Nat) : ∀ (n : Nat) (acc : Array Nat), (List.replicate n l.toArray).foldl (· ++ ·) acc = acc ++ (List.replicate n l).flatten.toArray
  | 0, acc => by simp
  | n + 1, acc => by rw [List.replicate_succ, List.foldl_cons, rep_fold l n, List.replicate_succ, List.flatten_cons]; simp
def rRepS : R2 := fun x y H Q => ∃ (l : List Nat) (n : Nat), x = .str (tx l) ∧ y = .int n ∧ n ≤ 1000 ∧ l.length ≤ 1000 ∧ Q (.str (tx (List.replicate n l).flatten)) H
theorem op_repS {X : Cx} : OpR X (binaryOp .Mult) rRepS := by
  intro pins s σ H x y v u Q I rx ry h
  obtain ⟨l, n, rfl, rfl, hn, hl, q⟩ := h
  obtain ⟨t, rfl⟩ := rx
  obtain ⟨t', rfl⟩ := ry
  refine P.mul_str (by simp; omega) (fun h1 _ => ?_) (fun _ _ => ?_) ?_
  · rw [tx_len]
    have : (1000 : Int) ≤ (2 ^ 63 - 1) / (n : Int) := by
      refine (Int.le_ediv_iff_mul_le (by omega)).mpr ?_
      omega
    omega
  · rw [tx_len]
    have : l.length * (n : Int).toNat ≤ 1000 * 1000 := Nat.mul_le_mul hl (by omega)
    have z : (1000 * 1000 : Nat) ≤ sizeLine := by decide
    exact decide_eq_false (by omega)
  · split
    · rename_i c
      have : n = 0 := by omega
      subst this
      exact ⟨by decide, .str (tx []), H, I.tok _, ⟨_, rfl⟩, q⟩
    · split
      · rename_i c1 c2
        refine ⟨.str (tx l), H, I, ⟨_, rfl⟩, ?_⟩
        have : (List.replicate n l).flatten = l := by
          rw [tx_len] at c2
          rcases Bool.or_eq_true_iff.mp c2 with e | e
          · have : n = 1 := by have := eq_of_beq e; omega
            subst this; simp
          · have : l = [] := List.length_eq_zero_iff.mp (eq_of_beq e)
            subst this; simp
        rw [this] at q
        exact q
      · have e : (⟨(List.replicate (n : Int).toNat (tx l).cps).foldl (· ++ ·) #[]⟩ : Str) = tx (List.replicate n l).flatten := by
          rw [Int.toNat_natCast]
          show (⟨(List.replicate n l.toArray).foldl (· ++ ·) #[]⟩ : Str) = _
          rw [rep_fold l n #[]]
          simp [tx]
        rw [e]
        refine ⟨?_, .str (tx (List.replicate n l).flatten), H, I.tok _, ⟨_, rfl⟩, q⟩
        rw [tx_len, List.length_flatten, List.map_replicate, List.sum_replicate_nat]
        have z : (1000 * 1000 : Nat) ≤ sizeLine := by decide
        exact Nat.le_trans (Nat.mul_le_mul hn hl) z
end Eb
set_option maxHeartbeats 4000000
namespace Eb
open PySem PySem.Spec PyProof.Rows L2
/-! ## the law's end, with tables of code objects -/
abbrev emptyTab : Obj := { cls := .none, data := .fields #[] }
/-- what is tracked: the script, the tables -/
structure Trk (H : Hp) (a : Addr) (ts : List Addr) : Prop where
  only : ∀ b, H b ≠ none → b = a ∨ b ∈ ts
  tbl : ∀ b ∈ ts, H b = some (.tbl #[])
  frz : H a = none ∨ a ∈ ts ∨ ∃ ob xs, H a = some (.frz ob (.lst xs))
theorem endT {P : Program} {w : World} {K : PySem.W.Frag} {mg mb : Str → Option Value} {k : Nat} {fa a : Addr} {fd : FuncData} {x : Str} {sp : Sp} {s₁ : Shared} {vs : List Value} {cs : List (Addr × Addr)} (H : Hp)
    (KX : K.In s₁.heap) (hns : s₁.heap.Ns mainGlobals mg) (hb : s₁.heap.Ns builtinsNs mb) (hbb : ∀ x : Str, x ≠ "__name__" → mb x = bootBuiltins x) (hlim : s₁.heap.NoLimit) (hg : s₁.gens = #[])
    (tab : ∀ p ∈ cs, s₁.heap.get? p.2 = some emptyTab ∧ K.lookup p.2 = none ∧ PySem.W.CodeHd s₁.heap p.1 p.2)
    (hbm : ∃ (bm : Addr) (ob : Obj), mg "__builtins__" = some (.ref bm) ∧ bm ≠ builtinsNs ∧ s₁.heap.get? bm = some ob ∧ ob.cls = .type "module" ∧ ob.dict = some builtinsNs ∧ ob.data = .plain)
    (ha : s₁.heap.get? a = some { cls := .type "list", data := .seq vs.toArray }) (hr : Room k callerA) (F : ∀ base : Heap, (∀ p ∈ cs, LamX.TabB base mg p.1 p.2) → FnG P w K mg base k fa fd [x] sp) (bd : ∀ (s : Shared) (u : Value), BindsTo s fd ⟨[u], []⟩ [(x, u)])
    (hsp : sp [.ref a] H (fun v _ => v = .bl true) fun _ _ _ => False) (tr : Trk H a (cs.map (·.2))) (hok : HOk P w H s₁.heap) (hK : H a ≠ none → K.lookup a = none) :
    codeAny (model P w) callerA (.call (.ref fa) ⟨[.ref a], []⟩) (fun r s' => r = .ok (.ret (.bool true)) ∧ OldK s₁.heap s'.heap ∧ s'.os = s₁.os ∧ AllBare s'.gens) s₁ := by
  have ta : ∀ b ∈ cs.map (·.2), s₁.heap.get? b = some emptyTab ∧ K.lookup b = none := fun b z => by
    obtain ⟨p, hp, rfl⟩ := List.mem_map.mp z
    exact ⟨(tab p hp).1, (tab p hp).2.1⟩
  -- an object that is neither the script nor a table is not tracked
  have free : ∀ {b : Addr} {o : Obj}, s₁.heap.get? b = some o → (∀ us n, o.data ≠ .seq us n) → (∀ us, o.data = .fields us → us ≠ #[]) → H b = none := fun {b o} e n1 n2 => Classical.byContradiction fun z => by
    rcases tr.only b z with q | q
    · subst q
      rw [ha] at e
      cases e
      exact n1 _ _ rfl
    · have t := (ta b q).1
      rw [e] at t
      cases t
      exact n2 _ rfl rfl
  have stay : ∀ {b : Addr} {o : Obj}, s₁.heap.get? b = some o → (∀ us n, o.data ≠ .seq us n) → (∀ us, o.data = .fields us → us ≠ #[]) → (hidT s₁.heap H).get? b = some o := fun e n1 n2 => hidT_get e (free e n1 n2)
  have nk : ∀ {b : Addr} {m : Str → Option Value}, s₁.heap.Ns b m → (hidT s₁.heap H).Ns b m := fun {b m} ⟨o, es, ep, e, d, r⟩ => ⟨o, es, ep, stay e (fun us n z => by rw [d] at z; cases z) (fun us z => by rw [d] at z; cases z), d, r⟩
  have kb : K.In (hidT s₁.heap H) := fun b o e => hidT_get (KX b o e) (Classical.byContradiction fun z => by
    rcases tr.only b z with q | q
    · subst q; rw [hK z] at e; cases e
    · rw [(ta b q).2] at e; cases e)
  have mo : Mod K mg (hidT s₁.heap H) := ⟨kb, nk hns, ⟨mb, nk hb, hbb⟩, let ⟨mc, h1, h2⟩ := hlim; ⟨mc, nk h1, h2⟩⟩
  have TB : ∀ p ∈ cs, LamX.TabB (hidT s₁.heap H) mg p.1 p.2 := fun p hp => by
    obtain ⟨t1, t2, o, us, file, tf, flags, tg, inF, text, tt, c1, c2, c3, c4, rest⟩ := tab p hp
    obtain ⟨og, es, ep, g1, g2, _⟩ := hns
    refine ⟨⟨o, us, file, tf, flags, tg, inF, text, tt, stay c1 (fun us' n z => by rw [c3] at z; cases z) (fun us' z q => ?_), c2, c3, c4, rest⟩, ?_, fun z => by rw [z, t1] at g1; cases g1; cases g2⟩
    · rw [c3] at z
      cases z
      rw [q] at c4
      cases c4
    · obtain ⟨bm, ob, b1, b2, b3, b4, b5, b6⟩ := hbm
      refine ⟨bm, ob, b1, b2, fun z => ?_, fun z => ?_, stay b3 (fun us' n z => by rw [b6] at z; cases z) (fun us' z => by rw [b6] at z; cases z), b4, b5, b6⟩
      · rw [z, g1] at b3; cases b3; rw [g2] at b6; cases b6
      · rw [z, t1] at b3; cases b3; cases b6
  have e0 : Env0 P w K mg (hidT s₁.heap H) callerA [] s₁ H := ⟨rfl, mo, fun b o e => of_hidT e, Nat.le_of_eq (hidT_size _ _), trivial, fun b z => (List.not_mem_nil (show b ∈ ([] : List Addr) from z)).elim, hok, .of_eq hg⟩
  refine codeAny_mono ((F _ TB).run callerA [] s₁ H ⟨[.ref a], []⟩ [.ref a] [.ref a] _ _ rfl hr e0 (bd s₁ (.ref a)) (.cons rfl .nil) hsp) fun r s' h => ?_
  cases r with
  | error e => exact False.elim h
  | ok fl =>
    cases fl with
    | ret u =>
      obtain ⟨v, H', os, bare, un, hok', r', q⟩ := h
      cases (show v = .bl true from q)
      cases (show u = Value.bool true from r')
      have old : ∀ b o, b ∉ cs.map (·.2) → s₁.heap.get? b = some o → s'.heap.get? b = some o := fun b o nb e => by
        by_cases z : H b = none
        · exact un.keep b o e z (fun m => List.not_mem_nil (show b ∈ ([] : List Addr) from m)) (fun m => List.not_mem_nil m)
        · rcases tr.only b z with y | y
          · subst y
            rcases tr.frz with y | y | ⟨ob, xs, y⟩
            · exact absurd y z
            · exact absurd y nb
            · obtain ⟨e1, _⟩ := hok b _ y
              obtain ⟨e2, _⟩ := hok' b _ (un.frzs b ob _ y)
              rw [e] at e1
              cases e1
              exact e2
          · exact absurd y nb
      have more : ∀ b ∈ cs.map (·.2), ∃ us : Array Value, s'.heap.get? b = some { cls := .none, data := .fields us } := fun b z => by
        obtain ⟨us, y⟩ := un.tbls b #[] (tr.tbl b z)
        exact ⟨_, hok' b _ y⟩
      refine ⟨rfl, ⟨fun b o e => ?_, fun b o e => ?_⟩, os, bare⟩
      · by_cases z : b ∈ cs.map (·.2)
        · obtain ⟨us, y⟩ := more b z
          obtain ⟨p, hp, rfl⟩ := List.mem_map.mp z
          have t := tab p hp
          rw [t.1] at e
          cases e
          exact .inr (.inl ⟨(t.2.2.tab t.1).isCodeTable, rfl, #[], us, rfl, by rw [Array.empty_append]; exact y⟩)
        · exact .inl (old b o z e)
      · by_cases z : b ∈ cs.map (·.2)
        · obtain ⟨us, y⟩ := more b z
          exact ⟨_, y⟩
        · exact ⟨o, old b o z e⟩
    | _ => exact False.elim h
/-- what the law's def must promise, lambdas being made on the way: cs, the makers' code objects and their tables -/
theorem walkT {l : PySem.W.OpenLaw} {n k : Nat} {q : Program} {loose : List Str} {XP : (Str → Option Value) → Heap → Prop} {YP : World → Heap → Prop} {d : DefRec} {x : Str}
    (hn : l.most = some n) (hn2 : n ≤ sizeLine) (hdf : d.params.defaults = []) (hr : Room k callerA)
    (F : ∀ (w : World) (mg : Str → Option Value) (fa : Addr) (h : Heap), YP w h → h.Ns mainGlobals mg → mg d.name = some (.ref fa) →
      ∃ (K : PySem.W.Frag) (fd : FuncData) (sp : Sp) (cs : List (Addr × Addr)), K.In h ∧ (∀ p ∈ cs, h.get? p.2 = some emptyTab ∧ K.lookup p.2 = none ∧ PySem.W.CodeHd h p.1 p.2) ∧ (∀ (s : Shared) (u : Value), BindsTo s fd ⟨[u], []⟩ [(x, u)]) ∧
        (∀ (H : Hp) (a : Addr) (ns : List Int), ns.length ≤ n → (∀ p ∈ cs, H p.2 = some (.tbl #[])) → SqL K H a (ns.map V.int) → sp [.ref a] H (fun v _ => v = .bl true) fun _ _ _ => False) ∧
        ∀ base : Heap, (∀ p ∈ cs, LamX.TabB base mg p.1 p.2) → FnG l.prog w K mg base k fa fd [x] sp) :
    PySem.W.WalkO q loose XP YP l.row.toRowW d [] (fun f vs => PySem.call f vs) := by
  refine Att.attach_callB hn hdf fun w s₀ s₁ mg mb fa o pm cd doc a vs ns G Y ho hd hcd hmg hobj hints hlen hbits hg => ?_
  obtain ⟨K, fd, sp, cs, KX, tab, bd, hsp, hF⟩ := F w mg fa _ Y G.T.g hmg
  have rv := vals_ints hints
  have lv := hints.length
  have lz : ns.length ≤ sizeLine := Nat.le_trans hlen hn2
  have nat : a ∉ cs.map (·.2) := fun z => by
    obtain ⟨p, hp, e⟩ := List.mem_map.mp z
    have t := (tab p hp).1
    rw [e, hobj] at t
    cases t
  have tb : ∀ b ∈ cs.map (·.2), s₁.heap.get? b = some emptyTab := fun b z => by
    obtain ⟨p, hp, rfl⟩ := List.mem_map.mp z
    exact (tab p hp).1
  cases hk : K.lookup a with
  | some ob =>
    have e := KX a ob hk
    rw [hobj] at e
    cases e
    have h0 : ∀ b, (if b ∈ cs.map (·.2) then some (HO.tbl #[]) else none) ≠ none → b ∈ cs.map (·.2) := fun b z => Classical.byContradiction fun c => z (if_neg c)
    refine endT (fun b => if b ∈ cs.map (·.2) then some (HO.tbl #[]) else none) KX G.T.g G.T.b G.T.builtins G.T.nolimit hg tab G.T.bmain hobj hr hF bd (hsp _ a ns hlen (fun p hp => if_pos (List.mem_map.mpr ⟨p, hp, rfl⟩)) (.inr ⟨_, vs.toArray, _, hk, rfl, rfl, rfl, ?_, ?_⟩)) ⟨fun b z => .inr (h0 b z), fun b z => if_pos z, .inl (if_neg nat)⟩ (fun b u z => ?_) (fun z => absurd (if_neg nat) z)
    · rw [List.size_toArray, lv]; exact lz
    · simpa using rv
    · have m := h0 b (fun c => by cases z.symm.trans c)
      cases (if_pos m).symm.trans z
      exact tb b m
  | none =>
    have h0 : ∀ b, (if b = a then some (HO.frz { cls := .type "list", data := .seq vs.toArray } (.lst (ns.map V.int))) else if b ∈ cs.map (·.2) then some (HO.tbl #[]) else none) ≠ none → b = a ∨ b ∈ cs.map (·.2) := fun b z => by
      by_cases c : b = a
      · exact .inl c
      · exact .inr (Classical.byContradiction fun c2 => z ((if_neg c).trans (if_neg c2)))
    have h1 : ∀ b ∈ cs.map (·.2), (if b = a then some (HO.frz { cls := .type "list", data := .seq vs.toArray } (.lst (ns.map V.int))) else if b ∈ cs.map (·.2) then some (HO.tbl #[]) else none) = some (HO.tbl #[]) := fun b z => (if_neg (fun (e : b = a) => nat (by rw [← e]; exact z))).trans (if_pos z)
    refine endT (fun b => if b = a then some (HO.frz { cls := .type "list", data := .seq vs.toArray } (.lst (ns.map V.int))) else if b ∈ cs.map (·.2) then some (HO.tbl #[]) else none) KX G.T.g G.T.b G.T.builtins G.T.nolimit hg tab G.T.bmain hobj hr hF bd (hsp _ a ns hlen (fun p hp => h1 _ (List.mem_map.mpr ⟨p, hp, rfl⟩)) (.inl (.inr ⟨_, if_pos rfl⟩))) ⟨h0, h1, .inr (.inr ⟨_, _, if_pos rfl⟩)⟩ (fun b u z => ?_) (fun _ => hk)
    rcases h0 b (fun c => by cases z.symm.trans c) with c | c
    · cases (if_pos c).symm.trans z
      subst c
      exact ⟨hobj, by rw [List.length_map]; exact lz, vs, _, rv, hobj⟩
    · cases (h1 b c).symm.trans z
      exact tb b c
/-! ## the head: the written part without the tables -/
def codAd (K : PySem.W.Frag) (f : Addr) : Addr := match K.lookup f with
  | some ⟨_, _, .func fd, _⟩ => (match fd.code with | .ref c => c | _ => 0)
  | _ => 0
def tabAd (K : PySem.W.Frag) (c : Addr) : Addr := match K.lookup c with
  | some ⟨_, _, .fields vs, _⟩ => (match vs.getD 11 .none with | .ref P => P | _ => 0)
  | _ => 0
def cut (ts : List Addr) (K : PySem.W.Frag) : PySem.W.Frag := K.filter fun p => !ts.contains p.1
theorem cut_lookup (ts : List Addr) (a : Addr) : ∀ K : PySem.W.Frag, (cut ts K).lookup a = if a ∈ ts then none else K.lookup a
  | [] => by simp [cut]
  | (b, o) :: r => by
    have ih := cut_lookup ts a r
    unfold cut at ih ⊢
    rw [List.filter_cons]
    by_cases hb : b ∈ ts
    · rw [if_neg (by simpa using hb), ih]
      by_cases hab : a = b
      · subst hab
        rw [if_pos hb, if_pos hb]
      · rw [List.lookup_cons, show (a == b) = false by simpa using hab]
    · rw [if_pos (by simpa using hb), List.lookup_cons, List.lookup_cons, ih]
      by_cases hab : a = b
      · subst hab
        rw [if_neg hb]
        simp [hb]
      · rw [show (a == b) = false by simpa using hab]
theorem cut_in {ts : List Addr} {K : PySem.W.Frag} {h : Heap} (X : K.In h) : (cut ts K).In h := fun a o e => by
  rw [cut_lookup] at e
  by_cases c : a ∈ ts
  · rw [if_pos c] at e; cases e
  · rw [if_neg c] at e; exact X a o e
/-- the makers' tables -/
def tabs (xs : List Str) (K : PySem.W.Frag) : List Addr := xs.map fun x => tabAd K (codAd K (He.ga K x))
def tabB (K : PySem.W.Frag) (P : Addr) : Bool := match K.lookup P with
  | some ⟨.none, none, .fields vs, sl⟩ => vs.isEmpty && sl.isEmpty
  | _ => false
def obsT (xs : List Str) (cs : List (PySem.W.Frag → Bool)) (fn : List He.DefD) (K : PySem.W.Frag) : He.AlD :=
  let C := cut (tabs xs K) K
  let o := obsX cs fn C
  ((tabs xs K).all (tabB K) && (decide (tabs xs C = tabs xs K) && (xs.all (fun x => PySem.W.codeHdIn C (codAd C (He.ga C x)) (tabAd C (codAd C (He.ga C x)))) && o.1)), o.2)
def obsTG (n : Nat) (xs : List Str) (cs : List (PySem.W.Frag → Bool)) (fn : List He.DefD) (g : Addr → Option Obj) : He.AlD := obsT xs cs fn (He.frG g (sysModules :: He.asD g n))
def hookT (n : Nat) (xs : List Str) (cs : List (PySem.W.Frag → Bool)) (fn : List He.DefD) : PySem.W.Hook where
  α := He.AlD
  obs := fun s => obsTG n xs cs fn s.heap.get?
  val := fun _ => He.valD fn
  says := fun _ h => ∃ K : PySem.W.Frag, K.In h ∧ obsT xs cs fn K = He.valD fn
  of := fun _ _ e => ⟨_, He.frG_in, e⟩
  keeps := fun _ _ _ ⟨K, hK, c⟩ k => ⟨K, hK.keeps k, c⟩
theorem obsTG_eq {n : Nat} {xs : List Str} {cs : List (PySem.W.Frag → Bool)} {fn : List He.DefD} {g : Addr → Option Obj} {s : Shared} (h : ∀ a, g a = s.heap.get? a) : obsTG n xs cs fn g = (hookT n xs cs fn).obs s := by
  rw [show g = s.heap.get? from funext h]; rfl
/-- the makers' code objects and tables -/
def mkrs (xs : List Str) (K : PySem.W.Frag) : List (Addr × Addr) := xs.map fun x => (codAd K (He.ga K x), tabAd K (codAd K (He.ga K x)))
theorem tabB_ok {K : PySem.W.Frag} {P : Addr} {h : Heap} (X : K.In h) (e : tabB K P = true) : h.get? P = some emptyTab := by
  unfold tabB at e
  cases q : K.lookup P with
  | none => rw [q] at e; cases e
  | some o =>
    obtain ⟨oc, od, dt, sl⟩ := o
    rw [q] at e
    cases oc <;> cases od <;> cases dt <;> first | cases e | skip
    rename_i vs
    obtain ⟨e1, e2⟩ := He.ba e
    have v0 : vs = #[] := by simpa using e1
    have s0 : sl = #[] := by simpa using e2
    rw [v0, s0] at q
    exact X P _ q
theorem saysT {xs : List Str} {cs : List (PySem.W.Frag → Bool)} {fn : List He.DefD} {K0 : PySem.W.Frag} {h : Heap} (X : K0.In h) (c : obsT xs cs fn K0 = He.valD fn) :
    ∃ K : PySem.W.Frag, K.In h ∧ SaysX cs fn K ∧ ∀ p ∈ mkrs xs K, h.get? p.2 = some emptyTab ∧ K.lookup p.2 = none ∧ PySem.W.CodeHd h p.1 p.2 := by
  have c1 : ((tabs xs K0).all (tabB K0) && (decide (tabs xs (cut (tabs xs K0) K0) = tabs xs K0) && (xs.all (fun x => PySem.W.codeHdIn (cut (tabs xs K0) K0) (codAd (cut (tabs xs K0) K0) (He.ga (cut (tabs xs K0) K0) x)) (tabAd (cut (tabs xs K0) K0) (codAd (cut (tabs xs K0) K0) (He.ga (cut (tabs xs K0) K0) x)))) && (obsX cs fn (cut (tabs xs K0) K0)).1))) = true := congrArg (fun z : He.AlD => z.1) c
  have c2 : (obsX cs fn (cut (tabs xs K0) K0)).2 = (He.valD fn).2 := (show (obsT xs cs fn K0).2 = (He.valD fn).2 by rw [c])
  obtain ⟨t1, c1⟩ := He.ba c1
  obtain ⟨t2, c1⟩ := He.ba c1
  obtain ⟨t3, t4⟩ := He.ba c1
  have t2 := of_decide_eq_true t2
  refine ⟨cut (tabs xs K0) K0, cut_in X, Prod.ext t4 c2, fun p hp => ?_⟩
  obtain ⟨x, hx, rfl⟩ := List.mem_map.mp hp
  have m : tabAd (cut (tabs xs K0) K0) (codAd (cut (tabs xs K0) K0) (He.ga (cut (tabs xs K0) K0) x)) ∈ tabs xs K0 := by
    have m' : tabAd (cut (tabs xs K0) K0) (codAd (cut (tabs xs K0) K0) (He.ga (cut (tabs xs K0) K0) x)) ∈ tabs xs (cut (tabs xs K0) K0) := List.mem_map.mpr ⟨x, hx, rfl⟩
    rw [t2] at m'
    exact m'
  exact ⟨tabB_ok X (List.all_eq_true.mp t1 _ m), by rw [cut_lookup, if_pos m], PySem.W.codeHd_of_K (cut_in X) (List.all_eq_true.mp t3 x hx)⟩
/-! ## a def that makes lambdas: its code object is told -/
section
variable {P : Program} {w : World} {K : PySem.W.Frag} {mg : Str → Option Value} {base : Heap} {k : Nat} {f : Addr} {fd : FuncData} {ps : List Str} {sp : Sp}
theorem codAd_of {x qual : Str} {params : Arguments} {body : List Stmt} {scope : Scope} {dV kV doc pm cdv ct oc : Value} {an od : Option Addr} {osl : Array (Option Value)} (lk : K.lookup f = some ⟨oc, od, .func (PySem.W.fnOf x qual params body scope dV kV doc pm an cdv ct), osl⟩) {q : Str} (hcd : PySem.W.codeIn K cdv q = true) : cdv = .ref (codAd K f) := by
  unfold codAd
  rw [lk]
  cases cdv <;> first | rfl | cases hcd
theorem okL {x qual : Str} {params : Arguments} {body : List Stmt} {scope : Scope} {dvs : List V} {kws : List (Str × V)} {N : List Str}
    (F : FunD K x qual params body scope dvs kws f fd) (S : FnScope N ps scope) (len : ∀ vs H Q E, sp vs H Q E → vs.length = ps.length)
    (hb : ∀ (cdv : Value) (A : Around) (outer : List Env) (s : Shared) (H : Hp) (vs : List V) (Q : VK) (E : XK), cdv = .ref (codAd K f) →
      (A.deeper (envOfC qual scope s.heap.objs.size f cdv)).guards = some [] → Room k (A.deeper (envOfC qual scope s.heap.objs.size f cdv)) → sp vs H Q E →
      ∃ t, PSs (cxOf CX0 P w K mg base N qual scope f cdv A outer s H E).nox body t ∧ t { nx := fun _ H' => Q .non H', rt := Q } (start N vs) H) :
    FnG P w K mg base (k + 1) f fd ps sp := by
  obtain ⟨oc, od, dV, kV, doc, pm, an, cdv0, ct, osl, rfl, lk, hcd, _, _⟩ := id F.ex
  have ce := codAd_of lk hcd
  refine ⟨len, fun A outer s H args us vs Q E hg hr e0 hbd r hsp => ?_⟩
  have hl := len _ _ _ _ hsp
  have KX : K.In s.heap := e0.mod.kin.keeps fun b o e => (e0.bs b o e).1
  have lim : s.heap.NoLimit := e0.mod.nolimit.keeps fun b o e => (e0.bs b o e).1
  refine codeAny_call_function hr.depth (KX _ _ lk) rfl S.co S.gen rfl (PySem.W.codeRec_of KX hcd) (hbd _ _ _ _ ?_)
  refine wpAny_newFunctionEnv_cells S.kind (fun q hq => ?_) fun env he s1 x => ?_
  · obtain ⟨n, v⟩ := q
    rcases S.par n (List.of_mem_zip hq).1 with z | z
    · exact .inl z
    · exact .inr ⟨z, PySem.W.cellsFrom_some _ _ _ (.inl z)⟩
  · subst he
    refine ⟨lim.keeps x.toInCall.keep, codeAny_func ?_⟩
    obtain ⟨t, ht, hq⟩ := hb cdv0 A outer s H vs Q E ce hg (hr.deeper _) hsp
    have I : Inv (cxOf CX0 P w K mg base N qual scope f cdv0 A outer s H E) [] (start N vs) H s1 := inv_start S hr.hd e0 hl r x
    refine wpAny_mono (ht.nox.run [] s1 (start N vs) H _ I hq) (fun fl s' hs => ?_) fun e s' hs => hs
    cases fl with
    | ret u => obtain ⟨v, σ', H', J, rv, q⟩ := hs; exact ⟨v, H', J.os, J.bare, J.base, J.hok, rv, q⟩
    | next => obtain ⟨σ', H', J, q⟩ := hs; exact ⟨V.non, H', J.os, J.bare, J.base, J.hok, rfl, q⟩
    | brk => obtain ⟨_, _, _, q⟩ := hs; exact False.elim q
    | cont => obtain ⟨_, _, _, q⟩ := hs; exact False.elim q
def ByL (P : Program) (w : World) (K : PySem.W.Frag) (mg : Str → Option Value) (base : Heap) (k : Nat) (f : Addr) (N : List Str) (qual : Str) (body : List Stmt) (scope : Scope) (sp : Sp) : Prop :=
  ∀ (cdv : Value) (A : Around) (outer : List Env) (s : Shared) (H : Hp) (vs : List V) (Q : VK) (E : XK), cdv = .ref (codAd K f) → (A.deeper (envOfC qual scope s.heap.objs.size f cdv)).guards = some [] → Room k (A.deeper (envOfC qual scope s.heap.objs.size f cdv)) → sp vs H Q E →
      ∃ t, PSs (cxOf CX0 P w K mg base N qual scope f cdv A outer s H E).nox body t ∧ t { nx := fun _ H' => Q .non H', rt := Q } (start N vs) H
theorem calL {x : Str} {params : Arguments} {body : List Stmt} {scope : Scope} {N : List Str} (h : ∃ fd, FunD K x x params body scope [] [] f fd) (g : mg x = some (.ref f)) (S : FnScope N ps scope) (bd : Bd x x params body scope ps) (len : ∀ vs H Q E, sp vs H Q E → vs.length = ps.length)
    (hb : ByL P w K mg base k f N x body scope sp) : CalG P w K mg base (k + 1) x sp := by
  obtain ⟨fd, F⟩ := h
  exact ⟨f, fd, ps, okL F S len hb, g, F.kp, F.bindsN bd⟩
end
end Eb
set_option maxHeartbeats 4000000
namespace Eb
open PySem PySem.Spec PyProof.Rows L2
/-! ## several clauses: except x as n -/
abbrev TSx := Addr → Value → Option Addr → TS
/-- behind a suite the name in slot i is gone -/
def gone (i : Nat) (D : Ends) : Ends := { nx := fun σ' H' => D.nx (σ'.set i none) H', rt := D.rt, bk := fun σ' H' => D.bk (σ'.set i none) H', ct := fun σ' H' => D.ct (σ'.set i none) H' }
def wsAs (K : PySem.W.Frag) (i : Nat) (Wo : WX) (D : Ends) : List (Value × TSx) → WX
  | [] => Wo
  | (c, ts) :: r => fun cl dd σ H => ∃ b, PySem.W.exmOne K cl c = some b ∧ (b = true → ∀ a, H a = none → ts a cl dd (gone i D) (σ.set i (some (.ref a))) H) ∧ (b = false → wsAs K i Wo D r cl dd σ H)
inductive HsAs (X : Cx) (n : Str) : List ExceptHandler → List (Value × TSx) → Prop
  | nil : HsAs X n [] []
  | cons {x : Str} {c : Value} {ts : TSx} {st : Stmt} {su : List Stmt} {np hp : Pos} {hs : List ExceptHandler} {l : List (Value × TSx)} (hc : Names X x c)
      (hsu : ∀ (a : Addr) (ob : Obj) (cl : Value) (dd : Option Addr) (pn : List (Addr × Obj)), Zc cl dd ob → (∃ vs, ob.data = .fields vs) → PSs (X.suite a ((a, ob) :: pn)) (st :: su) (ts a cl dd)) (r : HsAs X n hs l) :
      HsAs X n (.ExceptHandler (some (.Name x np)) (some n) (st :: su) hp :: hs) ((c, ts) :: l)
theorem ps_tryAs {X : Cx} {body : List Stmt} {h1 : ExceptHandler} {hs : List ExceptHandler} {l : List (Value × TSx)} {pos : Pos} {tb : WX → TS} {Wo : WX} {i : Nat} {n : Str} (hstk : X.stack = X.env :: X.outer) (hfr : X.env.frame = some X.env.locals) (nd : X.N.Nodup) (hi : X.N[i]? = some n) (hln : X.env.kindOf n = some .local) (tk : Takes X Wo)
    (hb : ∀ (W : WX) (pn : List (Addr × Obj)) (xe : Value → Shared → Prop), Takes (X.tr pn xe) W → PassesOwn (model X.prog X.w) X.A X.env xe → PSs (X.tr pn xe) body (tb W))
    (hh : HsAs X n (h1 :: hs) l) : PS X (.Try body (h1 :: hs) [] [] pos) (fun D σ H => tb (wsAs X.K i Wo D l) D σ H) := by
  refine ⟨fun pins s σ H D I rd => ?_⟩
  have okX := I.ok
  have frX : X.A.frames = some (X.env :: X.outer) := by rw [okX.frames, hstk]
  refine wpAny_Try_except ?_
  refine wpAny_mono ((hb (wsAs X.K i Wo D l) (X.pn ++ pins) (fun e sa => wpAny (model X.prog X.w) X.A (noteFrame e X.env) (fun _ sb => wpAny (model X.prog X.w) X.A (setFlight e none) (fun _ sc =>
    wpAny (model X.prog X.w) X.A (handleBy e X.env (h1 :: hs)) (SP X pins D) X.xe sc) X.xe sb) X.xe sa) (fun u sz air => ?_) PassesOwn.looking).run [] s σ H D (I.toTry _) rd) (fun fl sy fin => ?_) (fun _ _ z => z)
  · obtain ⟨a, B, s0, _, σz, Hz, cl, dd, rfl, Jt, nb, up, sky, na, os, ag, wish⟩ := air
    have J : Inv X pins σz Hz s0 := Jt.ofTry okX
    have sky2 : Sky B (X.env :: X.outer) a (Zc cl dd) X.env.locals sz.heap := by rw [← hstk]; exact sky
    show wpAny (model X.prog X.w) X.A (noteFrame (.ref a) X.env) _ _ _
    refine Sky.land Zc.steady frX hfr sky2 fun hA flA upA => ?_
    have JA : Inv X pins σz Hz { sz with heap := hA } := J.landed nb flA.1 (up.trans upA) os ag
    obtain ⟨obA, vsA, eA, zA, dA⟩ := flA.there
    have nfr : a ∉ frs (X.env :: X.outer) := fun m => by
      obtain ⟨_, o2, e2, hnf⟩ := flA.2.2.1.mem m
      rw [eA] at e2
      cases e2
      exact hnf _ dA
    have nLo : a ≠ X.env.locals := fun z => nfr (List.mem_filterMap.mpr ⟨X.env, List.mem_cons_self, by rw [hfr, z]⟩)
    have nFs : a ∉ X.fs := fun m => by
      obtain ⟨e, he, q⟩ := List.mem_filterMap.mp m
      exact nfr (List.mem_filterMap.mpr ⟨e, List.mem_cons_of_mem _ he, q⟩)
    have SA := JA.suite eA dA na nLo nFs
    have each : ∀ {hds : List ExceptHandler} {ls : List (Value × TSx)}, HsAs X n hds ls → wsAs X.K i Wo D ls cl dd σz Hz →
        wpAny (model X.prog X.w) X.A (handleBy (.ref a) X.env hds) (SP X pins D) X.xe { sz with heap := hA } := by
      intro hds ls ok
      induction ok with
      | nil =>
        intro out
        refine wpAny_handleBy_nil ?_
        obtain ⟨_, _, _, ob, vs, T, _, _, e1, _, d1, v1, _⟩ := id flA
        unfold PySem.passOn
        refine wpAny_bind (wpAny_field e1 d1 v1 ?_)
        rw [if_neg (show ¬ ((Value.ref T == Value.none) = true) by simp)]
        have on : wpAny (model X.prog X.w) X.A (setFlight (.ref a) X.env.frame) (fun _ sq => wpAny (model X.prog X.w) X.A (throw (.ref a) : Sem Flow) (SP X pins D) X.xe sq) X.xe { sz with heap := hA } := by
          rw [hfr]
          refine HandSPX.setFlight_upZ flA fun hB hhB upB => wpAny_throw (tk _ _ ?_)
          exact ⟨a, B, s0, pins, σz, Hz, cl, dd, rfl, J, nb, (up.trans upA).trans upB, .inr (.inr (by rw [hstk]; exact hhB)), na, os, ag, out⟩
        first
          | exact wpAny_bind (wpAny_pure (wpAny_bind on))
          | exact wpAny_bind on
      | @cons x c ts st su np hp hds2 l2 hc hsu r ih =>
        intro wsh
        obtain ⟨b, hb1, yes, no⟩ := wsh
        refine wpAny_handleBy_cons (codeAny_handlers_test ?_) (by intro q; cases q)
        have lt : PySem.W.Looks (model X.prog X.w) hA (typeOf (.ref a)) cl := fun _ _ _ _ kp q => wpAny_typeOf_ref (kp _ _ eA) (by rw [zA.1]; exact q)
        have lm := PySem.W.exm_one (M := model X.prog X.w) JA.kIn lt hb1
        have name : ∀ {Q : Value → Shared → Prop} {E : Value → Shared → Prop}, Q c { sz with heap := hA } → wpAny (model X.prog X.w) (X.A.mark (some (.ref a))) (eval (.Name x np) X.env) Q E { sz with heap := hA } := fun {Q E} q => by
          obtain ⟨gx, dbg, mx | ⟨mx, vx, nx⟩⟩ := hc
          · exact ld_glob (X := X.suite a ((a, obA) :: (X.pn ++ pins))) SA gx mx q dbg
          · exact ld_blt (X := X.suite a ((a, obA) :: (X.pn ++ pins))) SA gx mx vx q nx dbg
        refine name (lm.here ?_)
        cases b with
        | false =>
          show wpAny _ X.A (handleBy (.ref a) X.env hds2) _ _ _
          exact ih (no rfl)
        | true =>
          refine codeAny_handlers_suite_as ?_
          refine HandSPX.lands_againZ flA fun hB flB upB => ?_
          have JB : Inv X pins σz Hz { sz with heap := hB } := J.landed nb flB.1 ((up.trans upA).trans upB) os ag
          obtain ⟨obB, vsB, eB, zB, dB⟩ := flB.there
          have SB := JB.suite eB dB na nLo nFs
          refine store_ok (X := X.suite a ((a, obB) :: (X.pn ++ pins))) (v := .ref a) SB nd hi (.inl hln) rfl (fun sC SC => ?_) (.inr hln)
          refine wpAny_mono ((hsu a obB cl dd (X.pn ++ pins) zB ⟨_, dB⟩).run [] sC _ Hz _ SC (yes rfl a na)) (fun f sD pD => ?_) (fun _ _ z => False.elim z)
          have off : ∀ {σ6 : L2.St} {H6 : Hp} {Q : Shared → Prop}, Inv (X.suite a ((a, obB) :: (X.pn ++ pins))) [] σ6 H6 sD → (∀ sE, Inv X pins (σ6.set i none) H6 sE → Q sE) →
              wpAny (model X.prog X.w) X.A (do bindName X.env n .none; unbindBehindTheSuite X.env n hp) (fun _ sE => Q sE) X.xe sD := fun {σ6 H6 Q} S6 hq => gone_ok (S6.unsuite okX) nd hi hln hq
          cases f with
          | ret u =>
            obtain ⟨v6, σ6, H6, S6, r6, q6⟩ := pD
            exact off S6 fun sE JE => ⟨_, _, _, JE, r6, q6⟩
          | _ =>
            obtain ⟨σ6, H6, S6, q6⟩ := pD
            exact off S6 fun sE JE => ⟨_, _, JE, q6⟩
    exact each hh wish
  · cases fl with
    | next => obtain ⟨σ6, H6, J6, q⟩ := fin; exact wpAny_execs_nil ⟨σ6, H6, J6.ofTry okX, q⟩
    | ret u => obtain ⟨v, σ6, H6, J6, r, q⟩ := fin; exact ⟨v, σ6, H6, J6.ofTry okX, r, q⟩
    | _ => obtain ⟨σ6, H6, J6, q⟩ := fin; exact ⟨σ6, H6, J6.ofTry okX, q⟩
end Eb
set_option maxHeartbeats 4000000
namespace Eb
open PySem PySem.Spec PyProof.Rows L2
/-! ## own exception classes over ValueError, told by the head -/
def oexB (K : PySem.W.Frag) (C : Addr) : Bool := match K.lookup C with
  | some ⟨.type "type", _, .cls cd, sl⟩ => (match cd.mro, sl.toList with
    | .ref D :: bm, [_, _, _, _, some (.builtin n), _] => (D == C && n == "ValueError.__new__" && !cd.hasDel && cd.hasDict && PySem.HandSPX.refsVE bm) &&
        (He.eqO (PySem.W.findIn K (.ref C) "__setattr__") (some (some (.builtin "object.__setattr__"))) && (decide (PySem.W.subIn K (.ref C) (.type "BaseException") = some true) && (decide (PySem.W.typeIn K (.ref C) = some (.type "type")) && PySem.W.keepIn K (.ref C))))
    | _, _ => false)
  | _ => false
theorem oexB_ok {K : PySem.W.Frag} {C : Addr} (q : oexB K C = true) : OexC K C := by
  unfold oexB at q
  split at q
  · rename_i dd cd sl ho
    split at q
    · rename_i D bm k0 k1 k2 k3 n k5 hm hs
      obtain ⟨q1, q2⟩ := He.ba q
      simp only [Bool.and_eq_true, beq_iff_eq, Bool.not_eq_true'] at q1
      obtain ⟨⟨⟨⟨rfl, rfl⟩, hdel⟩, hdi⟩, hv⟩ := q1
      obtain ⟨s1, q2⟩ := He.ba q2
      obtain ⟨s2, q2⟩ := He.ba q2
      obtain ⟨s3, s4⟩ := He.ba q2
      obtain ⟨nm, bs, mro, ns, qn, hd, sn, sub, ab, col, del⟩ := cd
      dsimp only at hm hdel hdi
      subst hm hdel hdi
      have hsl : sl = #[k0, k1, k2, k3, some (.builtin "ValueError.__new__"), k5] := by
        obtain ⟨l⟩ := sl
        simp only at hs
        rw [hs]
      subst hsl
      exact ⟨⟨nm, qn, ns, bs, bm, sn, sub, ab, col, dd, k0, k1, k2, k3, k5, ho, hv⟩, He.eqO_ok s1, of_decide_eq_true s2, of_decide_eq_true s3, s4⟩
    · cases q
  · cases q
/-- the exception class at C, its one field f, its __init__ at fI -/
structure Oex (K : PySem.W.Frag) (mg : Str → Option Value) (x f : Str) : Prop where
  gC : mg x = some (.ref (He.ga K x))
  cls : OexC K (He.ga K x)
  xf : XfC K (He.ga K x)
  no : PySem.W.findIn K (.ref (He.ga K x)) f = some none
  ini : PySem.W.findIn K (.ref (He.ga K x)) "__init__" = some (some (.ref (He.ma K (He.ga K x) "__init__")))
  tI : PySem.W.typeIn K (.ref (He.ma K (He.ga K x) "__init__")) = some (.type "function")
def oexL (x f : Str) (K : PySem.W.Frag) : Bool := oexB K (He.ga K x) && (xfB K (He.ga K x) && (He.eqO (PySem.W.findIn K (.ref (He.ga K x)) f) (some none) && (He.eqO (PySem.W.findIn K (.ref (He.ga K x)) "__init__") (some (some (.ref (He.ma K (He.ga K x) "__init__")))) && decide (PySem.W.typeIn K (.ref (He.ma K (He.ga K x) "__init__")) = some (.type "function")))))
theorem oexL_ok {K : PySem.W.Frag} {mg : Str → Option Value} {x f : Str} (g : mg x = some (.ref (He.ga K x))) (h : oexL x f K = true) : Oex K mg x f := by
  obtain ⟨h1, h⟩ := He.ba h
  obtain ⟨h2, h⟩ := He.ba h
  obtain ⟨h3, h⟩ := He.ba h
  obtain ⟨h4, h5⟩ := He.ba h
  exact ⟨g, oexB_ok h1, xfB_ok h2, He.eqO_ok h3, He.eqO_ok h4, of_decide_eq_true h5⟩
end Eb
set_option maxHeartbeats 4000000
namespace Eb
open PySem PySem.Spec PyProof.Rows L2
/-! ## making an own exception -/
def spExI (C : Addr) (f : Str) : Sp := fun vs H Q _ => ∃ (a : Addr) (v : V), vs = [.ref a, v] ∧ H a = some (exo a C none) ∧ ∀ dx, H dx = none → dx ≠ a → Q .non (upd (upd H dx (exd dx [(f, v)])) a (exo a C (some dx)))
structure Exi (P : Program) (w : World) (K : PySem.W.Frag) (mg : Str → Option Value) (base : Heap) (x f : Str) : Prop where
  ex : ∃ (fd : FuncData) (ps : List Str), FnOk P w K mg base C8.CX0 1 (He.ma K (He.ga K x) "__init__") fd ps (spExI (He.ga K x) f) ∧ Binds K fd ps []
  t : Oex K mg x f
def tJA (ta : TA) : TA := fun σ H Q => ∃ R : List V → Hp → Prop, ta σ H R ∧ ∀ vs H', R vs H' → Q vs H'
theorem pa_j {X : Cx} {es : List Expr} {ta : TA} (h : PA X es ta) : PA X es (tJA ta) :=
  ⟨fun pos pins s σ H Q I ⟨R, h1, h2⟩ => wpAny_mono (h.run pos pins s σ H R I h1) (fun us s' ⟨vs, H', I', r, p⟩ => ⟨vs, H', I', r, h2 vs H' p⟩) fun _ _ z => z⟩
def tMkE (C : Addr) (f : Str) (ta : TA) : L2.St → Hp → XK → Prop := fun σ H Q => ta σ H fun vs H1 => ∃ v, vs = [v] ∧ ∀ d, H1 d = none → Q (.ref C) (some d) (upd H1 d (.xd [(f, v)]))
theorem pmk_e {X : Cx} {x f : Str} {j : Nat} {e : Expr} {ta : TA} {p pos : Pos} (c : Exi X.prog X.w X.K X.mg X.base x f) (hr : Room j X.A) (hj : 2 ≤ j) (hg : Gl X x) (ha : PA X [e] ta) (hdb : (x == ("__debug__" : Str)) = false := by decide)
    (he : starEach [e] X.env = (false, eval e X.env) :: starEach [] X.env := by rfl) (hpl : (backTo pos (starEach [] X.env)).any (·.1) = false := by rfl) : PMk X (.Call (.Name x p) [e] [] pos) (tMkE (He.ga X.K x) f ta) := by
  obtain ⟨fd, ps, F, b⟩ := c.ex
  have m := pmk_oex (p := p) (pos := pos) (dvs := []) (ds := []) c.t.cls c.t.ini c.t.tI F (hr.mono hj) b .nil C8.pass0 hg c.t.gC (pa_j ha) hdb he hpl
  intro pins s σ H Q I h
  refine m pins s σ H Q I ⟨_, h, ?_⟩
  rintro vs H1 ⟨v, rfl, q⟩
  refine ⟨by simp, fun a na => ⟨a, v, rfl, upd_same, fun dx nd ne => ⟨rfl, dx, [(f, v)], upd_same, ?_, ?_, ?_⟩⟩⟩
  · rw [upd_ne ne, upd_same]
  · rw [upd_ne ne] at nd; exact nd
  · have nd' : H1 dx = none := by rw [upd_ne ne] at nd; exact nd
    have e : upd (del (upd (upd (upd H1 a (exo a (He.ga X.K x) none)) dx (exd dx [(f, v)])) a (exo a (He.ga X.K x) (some dx))) a) dx (.xd [(f, v)]) = upd H1 dx (.xd [(f, v)]) := by
      funext b
      by_cases hb : b = dx
      · subst hb; rw [upd_same, upd_same]
      · rw [upd_ne hb, upd_ne hb]
        by_cases ha : b = a
        · subst ha; rw [del_same, na]
        · rw [del_ne ha, upd_ne ha, upd_ne hb, upd_ne ha]
    rw [e]
    exact q dx nd'
/-! ## defs that may raise -/
section
variable {P : Program} {w : World} {K : PySem.W.Frag} {mg : Str → Option Value} {base : Heap} {k : Nat} {f : Addr} {fd : FuncData} {ps : List Str} {sp : Sp} {x qual : Str} {params : Arguments} {body : List Stmt} {scope : Scope} {N : List Str}
def ByX (P : Program) (w : World) (K : PySem.W.Frag) (mg : Str → Option Value) (base : Heap) (k : Nat) (f : Addr) (N : List Str) (qual : Str) (body : List Stmt) (scope : Scope) (sp : Sp) : Prop :=
  ∀ (cdv : Value) (A : Around) (outer : List Env) (s : Shared) (H : Hp) (vs : List V) (Q : VK) (E : XK), Room k (A.deeper (envOfC qual scope s.heap.objs.size f cdv)) → sp vs H Q E →
      ∃ t, PSs (cxOf (L2.CX P w) P w K mg base N qual scope f cdv A outer s H E) body t ∧ t { nx := fun _ H' => Q .non H', rt := Q } (start N vs) H
structure CalX (P : Program) (w : World) (K : PySem.W.Frag) (mg : Str → Option Value) (base : Heap) (k : Nat) (x : Str) (sp : Sp) : Prop where
  ex : ∃ (f : Addr) (fd : FuncData) (ps : List Str), FnOk P w K mg base (L2.CX P w) k f fd ps sp ∧ mg x = some (.ref f) ∧ PySem.W.keepIn K (.ref f) = true ∧ Binds K fd ps []
theorem calX (h : ∃ fd, FunD K x x params body scope [] [] f fd) (g : mg x = some (.ref f)) (S : FnScope N ps scope) (bd : Bd x x params body scope ps) (len : ∀ vs H Q E, sp vs H Q E → vs.length = ps.length)
    (hb : ByX P w K mg base k f N x body scope sp) : CalX P w K mg base (k + 1) x sp := by
  obtain ⟨fd, F⟩ := h
  exact ⟨f, fd, ps, F.ok S len hb, g, F.kp, F.bindsN bd⟩
theorem exi_of {C : Addr} {fl : Str} (h : ∃ fd, FunD K "__init__" qual params body scope [] [] (He.ma K (He.ga K x) "__init__") fd) (t : Oex K mg x fl) (S : FnScope N ps scope) (bd : Bd "__init__" qual params body scope ps) (len : ∀ vs H Q E, spExI (He.ga K x) fl vs H Q E → vs.length = ps.length)
    (hb : By P w K mg base 0 (He.ma K (He.ga K x) "__init__") N qual body scope (spExI (He.ga K x) fl)) : Exi P w K mg base x fl := by
  obtain ⟨fd, F⟩ := h
  exact ⟨⟨fd, ps, okD F S len hb, F.bindsN bd⟩, t⟩
end
theorem pe_cX {X : Cx} {k j : Nat} {x : Str} {sp : Sp} {p pos : Pos} {e : Expr} {es : List Expr} {t : TA} {W : WX} (c : CalX X.prog X.w X.K X.mg X.base k x sp) (tk : Takes X W) (hr : Room j X.A) (hk : k ≤ j) (hg : Gl X x) (ha : PA X (e :: es) t)
    (hdb : (x == ("__debug__" : Str)) = false := by decide) (he : starEach (e :: es) X.env = (false, eval e X.env) :: starEach es X.env := by rfl) (hpl : (backTo pos (starEach es X.env)).any (·.1) = false := by rfl) :
    PE X (.Call (.Name x p) (e :: es) [] pos) (tCallS sp (WE W) t) := by
  obtain ⟨f, fd, ps, F, hm, kp, b⟩ := c.ex
  exact pe_callS F (hr.mono hk) hg hm kp b (fun σ => passAt tk σ) ha hdb he hpl
end Eb
set_option maxHeartbeats 4000000
namespace AM
open PySem PySem.Spec PyProof.Rows L2 Eb

/-! ## trees: what a value is, without addresses -/
/-- what changes: rho the cells, ow the owned slots, up the rest -/
structure Gh where
  rho : List Addr
  ow : List (Nat × Addr)
  up : List Addr
def Gh.all (G : Gh) : List Addr := G.rho ++ G.ow.map (·.2) ++ G.up
def Gh.hot (G : Gh) (a : Addr) : Prop := a ∈ G.all
/-- what stands still stays: the one way in which a heap goes on -/
structure Go (G : Gh) (H : Hp) (G' : Gh) (H' : Hp) : Prop where
  pre : G.rho <+: G'.rho
  keep : ∀ a o, ¬ G.hot a → H a = some o → H' a = some o ∧ ¬ G'.hot a
theorem Go.refl {G : Gh} {H : Hp} : Go G H G H := ⟨List.prefix_refl _, fun _ _ n h => ⟨h, n⟩⟩
theorem Go.trans {G G' G2 : Gh} {H H' H2 : Hp} (a : Go G H G' H') (b : Go G' H' G2 H2) : Go G H G2 H2 :=
  ⟨a.pre.trans b.pre, fun x o n h => b.keep x o (a.keep x o n h).2 (a.keep x o n h).1⟩
abbrev TK := Sum Int (List Nat)
/-- kr: what was known of a value once, and still is -/
inductive T where
  | non | bl (b : Bool) | int (i : Int) | str (l : List Nat) | cst (v : V) | scr (ns : List Int)
  | lst (xs : List T) | tup (xs : List T) | dct (kvs : List (TK × T)) | ins (C : String) (fs : List (String × T)) | obj (n : Nat) | kr (k : Nat) (R : Gh → Hp → V → Prop) | exc (a dd : Addr) (C : String) (fs : List (String × T))
/-- a written text -/
def q (s : String) : List Nat := s.toList.map Char.toNat
theorem tx_q (s : String) : tx (q s) = PySem.Str.ofString s := by rw [PySem.Str.ofString_eq_toList]; rfl
theorem toNat_inj {a b : Char} (h : a.toNat = b.toNat) : a = b := Char.ext (UInt32.toNat_inj.mp h)
theorem map_toNat_inj : ∀ {a b : List Char}, a.map Char.toNat = b.map Char.toNat → a = b
  | [], [], _ => rfl
  | [], _ :: _, h => by simp at h
  | _ :: _, [], h => by simp at h
  | x :: a, y :: b, h => by
    simp only [List.map_cons, List.cons.injEq] at h
    rw [toNat_inj h.1, map_toNat_inj h.2]
theorem q_inj {a b : String} (h : q a = q b) : a = b := String.toList_inj.mp (map_toNat_inj h)
@[simp] theorem q_eq {a b : String} : q a = q b ↔ a = b := ⟨q_inj, fun h => by rw [h]⟩
theorem ofString_inj {a b : String} (h : PySem.Str.ofString a = PySem.Str.ofString b) : a = b := q_inj (tx_inj (by rw [tx_q, tx_q, h]))

/-- a text that may be: not too long, of signs -/
structure SOk (l : List Nat) : Prop where
  len : l.length ≤ sizeLine
  ok : ∀ c ∈ l, c < 1114112
def sokB (l : List Nat) : Bool := decide (l.length ≤ sizeLine) && l.all fun c => decide (c < 1114112)
theorem sok_of {l : List Nat} (h : sokB l = true) : SOk l := by
  unfold sokB at h
  simp only [Bool.and_eq_true, decide_eq_true_eq, List.all_eq_true] at h
  exact ⟨h.1, h.2⟩
theorem SOk.app {a b : List Nat} (ha : SOk a) (hb : SOk b) (h : a.length + b.length ≤ sizeLine) : SOk (a ++ b) :=
  ⟨by rw [List.length_append]; exact h, fun c hc => (List.mem_append.mp hc).elim (ha.ok c) (hb.ok c)⟩
theorem SOk.sub {a b : List Nat} (ha : SOk a) (h : b.Sublist a) : SOk b := ⟨Nat.le_trans h.length_le ha.len, fun c hc => ha.ok c (h.subset hc)⟩
/-- the written part and the classes of one's own -/
structure Gm where
  K : PySem.W.Frag
  cls : List String
abbrev ga (K : PySem.W.Frag) (C : String) : Addr := He.ga K (PySem.Str.ofString C)
/-- what is known of an instance of the class C with these attributes -/
structure InsK (Γ : Gm) (C : String) (fs : List (String × T)) : Prop where
  mem : C ∈ Γ.cls
  cl : Cls Γ.K (ga Γ.K C)
  ty : insB (PySem.Str.ofString C) Γ.K = true
  na : ∀ p ∈ fs, NoAttr Γ.K (ga Γ.K C) (PySem.Str.ofString p.1)
def WrL (K : PySem.W.Frag) (a : Addr) (xs : List V) : Prop := ∃ (o : Obj) (its : Array Value) (n : Nat), K.lookup a = some o ∧ o.cls = .type "list" ∧ o.dict = none ∧ o.data = .seq its n ∧ its.size ≤ sizeLine ∧ Vals xs its.toList
def WrT (K : PySem.W.Frag) (a : Addr) (xs : List V) : Prop := ∃ (o : Obj) (its : Array Value) (n : Nat), K.lookup a = some o ∧ o.cls = .type "tuple" ∧ o.data = .seq its n ∧ its.size ≤ sizeLine ∧ Vals xs its.toList
def tk : TK → Key
  | .inl i => .inl i
  | .inr l => .inr (tx l)
theorem tk_inj {a b : TK} (h : tk a = tk b) : a = b := by
  cases a with
  | inl i => cases b with
    | inl j => cases h; rfl
    | inr m => cases h
  | inr l => cases b with
    | inl j => cases h
    | inr m => rw [tx_inj (Sum.inr.inj h)]

mutual
def VR (Γ : Gm) (G : Gh) (H : Hp) : T → V → Prop
  | .non, v => v = .non
  | .bl b, v => v = .bl b
  | .int i, v => v = .int i
  | .str l, v => v = .str (tx l) ∧ SOk l
  | .cst c, v => v = c
  | .scr ns, v => ∃ a, v = .ref a ∧ ((¬ G.hot a ∧ Rd H a (.lst (ns.map V.int))) ∨ WrL Γ.K a (ns.map V.int))
  | .obj n, v => ∃ a, v = .ref a ∧ G.rho[n]? = some a
  | .lst ts, v => ∃ a us, v = .ref a ∧ ¬ G.hot a ∧ H a = some (.lst us) ∧ VRs Γ G H ts us
  | .tup ts, v => ∃ a us, v = .ref a ∧ ((¬ G.hot a ∧ Rd H a (.tup us)) ∨ WrT Γ.K a us) ∧ VRs Γ G H ts us
  | .dct kvs, v => ∃ a us, v = .ref a ∧ ¬ G.hot a ∧ Rd H a (.dK us) ∧ VRd Γ G H kvs us
  | .ins C fs, v => ∃ a dx us, v = .ref a ∧ ¬ G.hot a ∧ H a = some (.ins (ga Γ.K C) dx us) ∧ InsK Γ C fs ∧ VRf Γ G H fs us
  | .exc a dd C fs, v => v = .ref a ∧ ¬ G.hot dd ∧ ∃ us, H dd = some (.xd us) ∧ VRf Γ G H fs us
  | .kr k R, v => k ≤ G.rho.length ∧ ∃ G0 H0, R G0 H0 v ∧ G0.rho.length ≤ k ∧ Go G0 H0 G H
def VRs (Γ : Gm) (G : Gh) (H : Hp) : List T → List V → Prop
  | [], us => us = []
  | t :: ts, us => ∃ v r, us = v :: r ∧ VR Γ G H t v ∧ VRs Γ G H ts r
def VRd (Γ : Gm) (G : Gh) (H : Hp) : List (TK × T) → List (Key × V) → Prop
  | [], us => us = []
  | (k, t) :: ts, us => ∃ v r, us = (tk k, v) :: r ∧ VR Γ G H t v ∧ VRd Γ G H ts r
def VRf (Γ : Gm) (G : Gh) (H : Hp) : List (String × T) → List (Str × V) → Prop
  | [], us => us = []
  | (f, t) :: ts, us => ∃ v r, us = (PySem.Str.ofString f, v) :: r ∧ VR Γ G H t v ∧ VRf Γ G H ts r
end
section
variable {Γ : Gm} {G G' : Gh} {H H' : Hp} {v : V}
@[simp] theorem vr_non : VR Γ G H .non v ↔ v = .non := by simp only [VR]
@[simp] theorem vr_bl {b : Bool} : VR Γ G H (.bl b) v ↔ v = .bl b := by simp only [VR]
@[simp] theorem vr_int {i : Int} : VR Γ G H (.int i) v ↔ v = .int i := by simp only [VR]
@[simp] theorem vr_str {l : List Nat} : VR Γ G H (.str l) v ↔ v = .str (tx l) ∧ SOk l := by simp only [VR]
@[simp] theorem vr_cst {c : V} : VR Γ G H (.cst c) v ↔ v = c := by simp only [VR]
theorem vr_scr {ns : List Int} : VR Γ G H (.scr ns) v ↔ ∃ a, v = .ref a ∧ ((¬ G.hot a ∧ Rd H a (.lst (ns.map V.int))) ∨ WrL Γ.K a (ns.map V.int)) := by simp only [VR]
theorem vr_obj {n : Nat} : VR Γ G H (.obj n) v ↔ ∃ a, v = .ref a ∧ G.rho[n]? = some a := by simp only [VR]
theorem vr_lst {ts : List T} : VR Γ G H (.lst ts) v ↔ ∃ a us, v = .ref a ∧ ¬ G.hot a ∧ H a = some (.lst us) ∧ VRs Γ G H ts us := by simp only [VR]
theorem vr_tup {ts : List T} : VR Γ G H (.tup ts) v ↔ ∃ a us, v = .ref a ∧ ((¬ G.hot a ∧ Rd H a (.tup us)) ∨ WrT Γ.K a us) ∧ VRs Γ G H ts us := by simp only [VR]
theorem vr_dct {ts : List (TK × T)} : VR Γ G H (.dct ts) v ↔ ∃ a us, v = .ref a ∧ ¬ G.hot a ∧ Rd H a (.dK us) ∧ VRd Γ G H ts us := by simp only [VR]
theorem vr_ins {C : String} {fs : List (String × T)} : VR Γ G H (.ins C fs) v ↔ ∃ a dx us, v = .ref a ∧ ¬ G.hot a ∧ H a = some (.ins (ga Γ.K C) dx us) ∧ InsK Γ C fs ∧ VRf Γ G H fs us := by simp only [VR]
theorem vr_exc {a dd : Addr} {C : String} {fs : List (String × T)} : VR Γ G H (.exc a dd C fs) v ↔ v = .ref a ∧ ¬ G.hot dd ∧ ∃ us, H dd = some (.xd us) ∧ VRf Γ G H fs us := by simp only [VR]
theorem vr_kr {k : Nat} {R : Gh → Hp → V → Prop} : VR Γ G H (.kr k R) v ↔ k ≤ G.rho.length ∧ ∃ G0 H0, R G0 H0 v ∧ G0.rho.length ≤ k ∧ Go G0 H0 G H := by simp only [VR]
theorem vrs_nil {us : List V} : VRs Γ G H [] us ↔ us = [] := by simp only [VRs]
theorem vrs_cons {t : T} {ts : List T} {us : List V} : VRs Γ G H (t :: ts) us ↔ ∃ v r, us = v :: r ∧ VR Γ G H t v ∧ VRs Γ G H ts r := by simp only [VRs]
theorem vrd_nil {us : List (Key × V)} : VRd Γ G H [] us ↔ us = [] := by simp only [VRd]
theorem vrd_cons {k : TK} {t : T} {ts : List (TK × T)} {us : List (Key × V)} : VRd Γ G H ((k, t) :: ts) us ↔ ∃ v r, us = (tk k, v) :: r ∧ VR Γ G H t v ∧ VRd Γ G H ts r := by simp only [VRd]
theorem vrf_nil {us : List (Str × V)} : VRf Γ G H [] us ↔ us = [] := by simp only [VRf]
theorem vrf_cons {k : String} {t : T} {ts : List (String × T)} {us : List (Str × V)} : VRf Γ G H ((k, t) :: ts) us ↔ ∃ v r, us = (PySem.Str.ofString k, v) :: r ∧ VR Γ G H t v ∧ VRf Γ G H ts r := by simp only [VRf]

theorem pre_get {l l' : List Addr} {n : Nat} {a : Addr} (h : l <+: l') (e : l[n]? = some a) : l'[n]? = some a := by
  obtain ⟨r, rfl⟩ := h
  rw [List.getElem?_append_left (List.getElem?_eq_some_iff.mp e).1]
  exact e
theorem Go.rd (g : Go G H G' H') {a : Addr} {o : HO} (n : ¬ G.hot a) (h : Rd H a o) : ¬ G'.hot a ∧ Rd H' a o := by
  rcases h with h | ⟨u, h⟩
  · exact ⟨(g.keep a _ n h).2, .inl (g.keep a _ n h).1⟩
  · exact ⟨(g.keep a _ n h).2, .inr ⟨u, (g.keep a _ n h).1⟩⟩
mutual
theorem VR.go (g : Go G H G' H') : ∀ {t : T} {v : V}, VR Γ G H t v → VR Γ G' H' t v
  | .non, v, h => vr_non.mpr (vr_non.mp h)
  | .bl b, v, h => vr_bl.mpr (vr_bl.mp h)
  | .int i, v, h => vr_int.mpr (vr_int.mp h)
  | .str l, v, h => vr_str.mpr (vr_str.mp h)
  | .cst c, v, h => vr_cst.mpr (vr_cst.mp h)
  | .obj n, v, h => let ⟨a, e, z⟩ := vr_obj.mp h; vr_obj.mpr ⟨a, e, pre_get g.pre z⟩
  | .scr ns, v, h => by
    obtain ⟨a, e, z⟩ := vr_scr.mp h
    exact vr_scr.mpr ⟨a, e, z.imp (fun z => g.rd z.1 z.2) id⟩
  | .lst ts, v, h => by
    obtain ⟨a, us, e, n, z, r⟩ := vr_lst.mp h
    exact vr_lst.mpr ⟨a, us, e, (g.keep a _ n z).2, (g.keep a _ n z).1, VRs.go g r⟩
  | .tup ts, v, h => by
    obtain ⟨a, us, e, z, r⟩ := vr_tup.mp h
    exact vr_tup.mpr ⟨a, us, e, z.imp (fun z => g.rd z.1 z.2) id, VRs.go g r⟩
  | .dct ts, v, h => by
    obtain ⟨a, us, e, n, z, r⟩ := vr_dct.mp h
    exact vr_dct.mpr ⟨a, us, e, (g.rd n z).1, (g.rd n z).2, VRd.go g r⟩
  | .ins C fs, v, h => by
    obtain ⟨a, dx, us, e, n, z, k, r⟩ := vr_ins.mp h
    exact vr_ins.mpr ⟨a, dx, us, e, (g.keep a _ n z).2, (g.keep a _ n z).1, k, VRf.go g r⟩
  | .exc a dd C fs, v, h => by
    obtain ⟨e, n, us, z, r⟩ := vr_exc.mp h
    exact vr_exc.mpr ⟨e, (g.keep dd _ n z).2, us, (g.keep dd _ n z).1, VRf.go g r⟩
  | .kr k R, v, h => by
    obtain ⟨l, G0, H0, r, l0, g0⟩ := vr_kr.mp h
    exact vr_kr.mpr ⟨Nat.le_trans l g.pre.length_le, G0, H0, r, l0, g0.trans g⟩
theorem VRs.go (g : Go G H G' H') : ∀ {ts : List T} {us : List V}, VRs Γ G H ts us → VRs Γ G' H' ts us
  | [], us, h => vrs_nil.mpr (vrs_nil.mp h)
  | t :: ts, us, h => let ⟨v, r, e, h1, h2⟩ := vrs_cons.mp h; vrs_cons.mpr ⟨v, r, e, VR.go g h1, VRs.go g h2⟩
theorem VRd.go (g : Go G H G' H') : ∀ {ts : List (TK × T)} {us : List (Key × V)}, VRd Γ G H ts us → VRd Γ G' H' ts us
  | [], us, h => vrd_nil.mpr (vrd_nil.mp h)
  | (k, t) :: ts, us, h => let ⟨v, r, e, h1, h2⟩ := vrd_cons.mp h; vrd_cons.mpr ⟨v, r, e, VR.go g h1, VRd.go g h2⟩
theorem VRf.go (g : Go G H G' H') : ∀ {ts : List (String × T)} {us : List (Str × V)}, VRf Γ G H ts us → VRf Γ G' H' ts us
  | [], us, h => vrf_nil.mpr (vrf_nil.mp h)
  | (k, t) :: ts, us, h => let ⟨v, r, e, h1, h2⟩ := vrf_cons.mp h; vrf_cons.mpr ⟨v, r, e, VR.go g h1, VRf.go g h2⟩
end

theorem VRs.length : ∀ {ts : List T} {us : List V}, VRs Γ G H ts us → us.length = ts.length
  | [], us, h => by rw [vrs_nil.mp h]; rfl
  | t :: ts, us, h => by
    obtain ⟨v, r, rfl, _, h2⟩ := vrs_cons.mp h
    show r.length + 1 = ts.length + 1
    rw [h2.length]
theorem VRs.get : ∀ {ts : List T} {us : List V} {i : Nat} {t : T}, VRs Γ G H ts us → ts[i]? = some t → ∃ v, us[i]? = some v ∧ VR Γ G H t v
  | [], us, i, t, h, e => by simp at e
  | t :: ts, us, 0, t', h, e => by
    obtain ⟨v, r, rfl, h1, _⟩ := vrs_cons.mp h
    cases (show t = t' from by simpa using e)
    exact ⟨v, rfl, h1⟩
  | t :: ts, us, i + 1, t', h, e => by
    obtain ⟨v, r, rfl, _, h2⟩ := vrs_cons.mp h
    obtain ⟨u, e1, e2⟩ := VRs.get (i := i) h2 (by simpa using e)
    exact ⟨u, by simpa using e1, e2⟩
theorem VRs.get' : ∀ {ts : List T} {us : List V} {i : Nat} {v : V}, VRs Γ G H ts us → us[i]? = some v → ∃ t, ts[i]? = some t ∧ VR Γ G H t v
  | [], us, i, t, h, e => by rw [vrs_nil.mp h] at e; simp at e
  | t :: ts, us, 0, v', h, e => by
    obtain ⟨v, r, rfl, h1, _⟩ := vrs_cons.mp h
    cases (show v = v' from by simpa using e)
    exact ⟨t, rfl, h1⟩
  | t :: ts, us, i + 1, v', h, e => by
    obtain ⟨v, r, rfl, _, h2⟩ := vrs_cons.mp h
    obtain ⟨u, e1, e2⟩ := VRs.get' (i := i) h2 (by simpa using e)
    exact ⟨u, by simpa using e1, e2⟩
theorem VRs.app : ∀ {ts ts' : List T} {us us' : List V}, VRs Γ G H ts us → VRs Γ G H ts' us' → VRs Γ G H (ts ++ ts') (us ++ us')
  | [], _, us, _, h, h' => by rw [vrs_nil.mp h]; exact h'
  | t :: ts, _, us, _, h, h' => by
    obtain ⟨v, r, rfl, h1, h2⟩ := vrs_cons.mp h
    exact vrs_cons.mpr ⟨v, _, rfl, h1, h2.app h'⟩
theorem VRs.one {t : T} {v : V} (h : VR Γ G H t v) : VRs Γ G H [t] [v] := vrs_cons.mpr ⟨v, [], rfl, h, vrs_nil.mpr rfl⟩
theorem VRs.set : ∀ {ts : List T} {us : List V} {t : T} {v : V} (i : Nat), VRs Γ G H ts us → VR Γ G H t v → VRs Γ G H (ts.set i t) (us.set i v)
  | [], us, _, _, i, h, _ => by rw [vrs_nil.mp h]; exact vrs_nil.mpr rfl
  | t :: ts, us, _, _, 0, h, h' => by
    obtain ⟨v, r, rfl, _, h2⟩ := vrs_cons.mp h
    exact vrs_cons.mpr ⟨_, _, rfl, h', h2⟩
  | t :: ts, us, _, _, i + 1, h, h' => by
    obtain ⟨v, r, rfl, h1, h2⟩ := vrs_cons.mp h
    exact vrs_cons.mpr ⟨_, _, rfl, h1, h2.set i h'⟩
theorem VRs.take : ∀ {ts : List T} {us : List V} (n : Nat), VRs Γ G H ts us → VRs Γ G H (ts.take n) (us.take n)
  | _, _, 0, _ => by simpa using vrs_nil.mpr rfl
  | [], us, n + 1, h => by rw [vrs_nil.mp h]; exact vrs_nil.mpr rfl
  | t :: ts, us, n + 1, h => by
    obtain ⟨v, r, rfl, h1, h2⟩ := vrs_cons.mp h
    exact vrs_cons.mpr ⟨v, _, rfl, h1, h2.take n⟩
theorem VRs.drop : ∀ {ts : List T} {us : List V} (n : Nat), VRs Γ G H ts us → VRs Γ G H (ts.drop n) (us.drop n)
  | _, _, 0, h => by simpa using h
  | [], us, n + 1, h => by rw [vrs_nil.mp h]; exact vrs_nil.mpr rfl
  | t :: ts, us, n + 1, h => by
    obtain ⟨v, r, rfl, h1, h2⟩ := vrs_cons.mp h
    exact h2.drop n
theorem VRs.strs : ∀ {ls : List (List Nat)} {us : List V}, VRs Γ G H (ls.map T.str) us → us = ls.map fun l => V.str (tx l)
  | [], us, h => vrs_nil.mp h
  | x :: xs, us, h => by
    obtain ⟨v, r, rfl, h1, h2⟩ := vrs_cons.mp (show VRs Γ G H (T.str x :: xs.map T.str) us from h)
    rw [(vr_str.mp h1).1, VRs.strs h2]; rfl
theorem VRs.ofStrs : ∀ {ls : List (List Nat)}, (∀ l ∈ ls, SOk l) → VRs Γ G H (ls.map T.str) (ls.map fun l => V.str (tx l))
  | [], _ => vrs_nil.mpr rfl
  | x :: xs, h => vrs_cons.mpr ⟨_, _, rfl, vr_str.mpr ⟨rfl, h x List.mem_cons_self⟩, VRs.ofStrs fun l z => h l (List.mem_cons_of_mem _ z)⟩
theorem VRs.ints : ∀ {ls : List Int} {us : List V}, VRs Γ G H (ls.map T.int) us ↔ us = ls.map V.int
  | [], us => by show VRs Γ G H [] us ↔ us = []; exact vrs_nil
  | x :: xs, us => by
    show VRs Γ G H (T.int x :: xs.map T.int) us ↔ us = V.int x :: xs.map _
    rw [vrs_cons]
    constructor
    · rintro ⟨v, r, rfl, h1, h2⟩
      rw [vr_int.mp h1, VRs.ints.mp h2]
    · rintro rfl
      exact ⟨_, _, rfl, vr_int.mpr rfl, VRs.ints.mpr rfl⟩
theorem VRs.bools : ∀ {ls : List Bool} {us : List V}, VRs Γ G H (ls.map T.bl) us ↔ us = ls.map V.bl
  | [], us => by show VRs Γ G H [] us ↔ us = []; exact vrs_nil
  | x :: xs, us => by
    show VRs Γ G H (T.bl x :: xs.map T.bl) us ↔ us = V.bl x :: xs.map _
    rw [vrs_cons]
    constructor
    · rintro ⟨v, r, rfl, h1, h2⟩
      rw [vr_bl.mp h1, VRs.bools.mp h2]
    · rintro rfl
      exact ⟨_, _, rfl, vr_bl.mpr rfl, VRs.bools.mpr rfl⟩
/-! attributes -/
def putT (f : String) (t : T) : List (String × T) → List (String × T)
  | [] => [(f, t)]
  | (g, x) :: r => if g = f then (g, t) :: r else (g, x) :: putT f t r
theorem VRf.length : ∀ {ts : List (String × T)} {us : List (Str × V)}, VRf Γ G H ts us → us.length = ts.length
  | [], us, h => by rw [vrf_nil.mp h]; rfl
  | (k, t) :: ts, us, h => by
    obtain ⟨v, r, rfl, _, h2⟩ := vrf_cons.mp h
    show r.length + 1 = ts.length + 1
    rw [h2.length]
theorem VRf.look {f : String} : ∀ {ts : List (String × T)} {us : List (Str × V)} {t : T}, VRf Γ G H ts us → ts.lookup f = some t → ∃ v, us.lookup (PySem.Str.ofString f) = some v ∧ VR Γ G H t v
  | [], us, t, h, e => by cases e
  | (k, t) :: ts, us, t', h, e => by
    obtain ⟨v, r, rfl, h1, h2⟩ := vrf_cons.mp h
    by_cases c : f = k
    · subst c
      rw [List.lookup_cons_self] at e ⊢
      cases e
      exact ⟨v, rfl, h1⟩
    · have c1 : (f == k) = false := beq_eq_false_iff_ne.mpr c
      have c2 : (PySem.Str.ofString f == PySem.Str.ofString k) = false := beq_eq_false_iff_ne.mpr fun z => c (ofString_inj z)
      rw [List.lookup_cons, c1] at e
      rw [List.lookup_cons, c2]
      exact h2.look e
theorem VRf.none {f : String} : ∀ {ts : List (String × T)} {us : List (Str × V)}, VRf Γ G H ts us → ts.lookup f = none → us.lookup (PySem.Str.ofString f) = none
  | [], us, h, e => by rw [vrf_nil.mp h]; rfl
  | (k, t) :: ts, us, h, e => by
    obtain ⟨v, r, rfl, h1, h2⟩ := vrf_cons.mp h
    by_cases c : f = k
    · subst c
      rw [List.lookup_cons_self] at e
      cases e
    · have c1 : (f == k) = false := beq_eq_false_iff_ne.mpr c
      have c2 : (PySem.Str.ofString f == PySem.Str.ofString k) = false := beq_eq_false_iff_ne.mpr fun z => c (ofString_inj z)
      rw [List.lookup_cons, c1] at e
      rw [List.lookup_cons, c2]
      exact h2.none e
theorem VRf.put {f : String} {t' : T} {v' : V} (h' : VR Γ G H t' v') : ∀ {ts : List (String × T)} {us : List (Str × V)}, VRf Γ G H ts us → VRf Γ G H (putT f t' ts) (putF (PySem.Str.ofString f) v' us)
  | [], us, h => by rw [vrf_nil.mp h]; exact vrf_cons.mpr ⟨_, _, rfl, h', vrf_nil.mpr rfl⟩
  | (k, t) :: ts, us, h => by
    obtain ⟨v, r, rfl, h1, h2⟩ := vrf_cons.mp h
    by_cases c : k = f
    · subst c
      rw [putT, putF, if_pos rfl, if_pos rfl]
      exact vrf_cons.mpr ⟨_, _, rfl, h', h2⟩
    · rw [putT, putF, if_neg c, if_neg fun z => c (ofString_inj z)]
      exact vrf_cons.mpr ⟨_, _, rfl, h1, h2.put h'⟩
theorem mem_putT {f : String} {t : T} {p : String × T} : ∀ {fs : List (String × T)}, p ∈ putT f t fs → p.1 = f ∨ ∃ z ∈ fs, z.1 = p.1
  | [], h => by
    rw [putT] at h
    cases List.mem_singleton.mp h
    exact .inl rfl
  | (g, x) :: r, h => by
    rw [putT] at h
    split at h
    · rename_i c
      rcases List.mem_cons.mp h with e | e
      · rw [e]; exact .inl c
      · exact .inr ⟨p, List.mem_cons_of_mem _ e, rfl⟩
    · rcases List.mem_cons.mp h with e | e
      · rw [e]; exact .inr ⟨(g, x), List.mem_cons_self, rfl⟩
      · rcases mem_putT e with z | ⟨z, hz, q⟩
        · exact .inl z
        · exact .inr ⟨z, List.mem_cons_of_mem _ hz, q⟩
theorem InsK.put {C f : String} {t : T} {fs : List (String × T)} (k : InsK Γ C fs) (n : NoAttr Γ.K (ga Γ.K C) (PySem.Str.ofString f)) : InsK Γ C (putT f t fs) :=
  ⟨k.mem, k.cl, k.ty, fun p hp => by
    rcases mem_putT hp with e | ⟨z, hz, e⟩
    · rw [e]; exact n
    · rw [← e]; exact k.na z hz⟩
end

/-! ## cells, slots -/
inductive Cell where
  | lst (xs : List T) | dct (kvs : List (TK × T)) | ins (C : String) (fs : List (String × T)) | pot | tab (x q : Str)
abbrev Mem := List Cell
/-- the law's numbers -/
def PotR (H : Hp) (a : Addr) : Prop := ∃ x y : Int, H a = some (.lst [.int x, .int y]) ∧ 0 ≤ x ∧ 0 ≤ y ∧ y < 2147483648
def CR (Γ : Gm) (G : Gh) (H : Hp) (a : Addr) : Cell → Prop
  | .lst ts => ∃ us, H a = some (.lst us) ∧ VRs Γ G H ts us
  | .dct ts => ∃ us, H a = some (.dK us) ∧ VRd Γ G H ts us
  | .ins C fs => ∃ dx us, H a = some (.ins (ga Γ.K C) dx us) ∧ InsK Γ C fs ∧ VRf Γ G H fs us
  | .pot => PotR H a
  | .tab x q => a = tabAd Γ.K (codAd Γ.K (He.ga Γ.K x)) ∧ LamX.TabS H a q ∧ ∀ c, (∃ ps pos, H a = some (.tbl ps) ∧ codeAmong pos ps.toList = some (.ref c)) → ¬ G.hot c
structure MR (Γ : Gm) (G : Gh) (m : Mem) (H : Hp) : Prop where
  len : m.length = G.rho.length
  cell : ∀ (n : Nat) (c : Cell) (a : Addr), m[n]? = some c → G.rho[n]? = some a → CR Γ G H a c
  nd : G.all.Nodup
  live : ∀ a, G.hot a → H a ≠ none
inductive Sl where
  | v (t : T) | o (t : T)
abbrev SS := List (Option Sl)
/-- a root that is owned -/
def RootR (Γ : Gm) (G : Gh) (H : Hp) (a : Addr) : T → Prop
  | .lst ts => ∃ us, H a = some (.lst us) ∧ VRs Γ G H ts us
  | .dct ts => ∃ us, H a = some (.dK us) ∧ VRd Γ G H ts us
  | _ => False
structure SR (Γ : Gm) (G : Gh) (H : Hp) (z : SS) (σ : L2.St) : Prop where
  len : z.length = σ.length
  val : ∀ (i : Nat) (t : T), z[i]? = some (some (.v t)) → ∃ v, σ[i]? = some (some v) ∧ VR Γ G H t v
  own : ∀ (i : Nat) (t : T), z[i]? = some (some (.o t)) → ∃ a, (i, a) ∈ G.ow ∧ σ[i]? = some (some (.ref a)) ∧ RootR Γ G H a t
/-- an expression's step: the cells alone may change -/
structure Stp (G : Gh) (H : Hp) (G' : Gh) (H' : Hp) : Prop where
  ow : G'.ow = G.ow
  up : G'.up = G.up
  pre : G.rho <+: G'.rho
  fr : ∀ a o, a ∉ G.rho → H a = some o → H' a = some o
  nw : ∀ a, a ∈ G'.rho → a ∈ G.rho ∨ H a = none
section
variable {Γ : Gm} {G G' G2 : Gh} {H H' H2 : Hp} {v : V}
theorem hot_iff {a : Addr} : G.hot a ↔ a ∈ G.rho ∨ a ∈ G.ow.map (·.2) ∨ a ∈ G.up := by
  unfold Gh.hot Gh.all
  rw [List.mem_append, List.mem_append, or_assoc]
theorem Stp.go (s : Stp G H G' H') : Go G H G' H' := ⟨s.pre, fun a o n h => by
  rw [hot_iff] at n ⊢
  refine ⟨s.fr a o (fun z => n (.inl z)) h, fun z => ?_⟩
  rw [s.ow, s.up] at z
  rcases z with z | z
  · rcases s.nw a z with q | q
    · exact n (.inl q)
    · rw [q] at h; cases h
  · exact n (.inr z)⟩
theorem Stp.refl : Stp G H G H := ⟨rfl, rfl, List.prefix_refl _, fun _ _ _ h => h, fun _ h => .inl h⟩
theorem Stp.trans (a : Stp G H G' H') (b : Stp G' H' G2 H2) : Stp G H G2 H2 where
  ow := b.ow.trans a.ow
  up := b.up.trans a.up
  pre := a.pre.trans b.pre
  fr := fun x o n h => b.fr x o (fun z => by
    rcases a.nw x z with q | q
    · exact n q
    · rw [q] at h; cases h) (a.fr x o n h)
  nw := fun x z => by
    rcases b.nw x z with q | q
    · exact a.nw x q
    · by_cases c : x ∈ G.rho
      · exact .inl c
      · right
        cases e : H x with
        | none => rfl
        | some o => rw [a.fr x o c e] at q; cases q
theorem Stp.vr {t : T} {v : V} (s : Stp G H G' H') (h : VR Γ G H t v) : VR Γ G' H' t v := h.go s.go
theorem Stp.vrs {t : List T} {v : List V} (s : Stp G H G' H') (h : VRs Γ G H t v) : VRs Γ G' H' t v := h.go s.go
theorem nd3 (n : G.all.Nodup) {a : Addr} : (a ∈ G.rho → a ∉ G.ow.map (·.2) ∧ a ∉ G.up) ∧ (a ∈ G.ow.map (·.2) → a ∉ G.up) := by
  unfold Gh.all at n
  rw [List.nodup_append] at n
  obtain ⟨n1, _, n3⟩ := n
  rw [List.nodup_append] at n1
  obtain ⟨_, _, n4⟩ := n1
  exact ⟨fun h => ⟨fun z => n4 a h a z rfl, fun z => n3 a (List.mem_append_left _ h) a z rfl⟩, fun h z => n3 a (List.mem_append_right _ h) a z rfl⟩
theorem own_mem {i : Nat} {a : Addr} (h : (i, a) ∈ G.ow) : a ∈ G.ow.map (·.2) := List.mem_map.mpr ⟨(i, a), h, rfl⟩
theorem RootR.go {a : Addr} {t : T} (g : Go G H G' H') (e : ∀ o, H a = some o → H' a = some o) (h : RootR Γ G H a t) : RootR Γ G' H' a t := by
  cases t with
  | lst ts => obtain ⟨us, h1, h2⟩ := h; exact ⟨us, e _ h1, h2.go g⟩
  | dct ts => obtain ⟨us, h1, h2⟩ := h; exact ⟨us, e _ h1, h2.go g⟩
  | _ => exact h
theorem SR.step {z : SS} {σ : L2.St} (r : SR Γ G H z σ) (n : G.all.Nodup) (s : Stp G H G' H') : SR Γ G' H' z σ :=
  ⟨r.len, fun i t e => let ⟨v, h1, h2⟩ := r.val i t e; ⟨v, h1, s.vr h2⟩, fun i t e => by
    obtain ⟨a, h1, h2, h3⟩ := r.own i t e
    exact ⟨a, by rw [s.ow]; exact h1, h2, h3.go s.go fun o q => s.fr a o (fun z => ((nd3 n).1 z).1 (own_mem h1)) q⟩⟩
theorem CR.go {a : Addr} {c : Cell} (g : Go G H G' H') (e : H' a = H a) (h : CR Γ G H a c) : CR Γ G' H' a c := by
  cases c with
  | lst ts => obtain ⟨us, h1, h2⟩ := h; exact ⟨us, by rw [e]; exact h1, h2.go g⟩
  | dct ts => obtain ⟨us, h1, h2⟩ := h; exact ⟨us, by rw [e]; exact h1, h2.go g⟩
  | ins C fs => obtain ⟨dx, us, h1, h2, h3⟩ := h; exact ⟨dx, us, by rw [e]; exact h1, h2, h3.go g⟩
  | pot => obtain ⟨x, y, h1, h2⟩ := h; exact ⟨x, y, by rw [e]; exact h1, h2⟩
  | tab x q =>
    obtain ⟨h0, ⟨ps, h1, h2, h3⟩, h4⟩ := h
    refine ⟨h0, ⟨ps, by rw [e]; exact h1, h2, fun pos cv hc => ?_⟩, fun c ⟨ps', pos, h5, h6⟩ => ?_⟩
    · obtain ⟨c, rfl, h6⟩ := h3 pos cv hc
      exact ⟨c, rfl, (g.keep c _ (h4 c ⟨ps, pos, h1, hc⟩) h6).1⟩
    · rw [e, h1] at h5
      cases h5
      obtain ⟨c2, e2, h7⟩ := h3 pos _ h6
      cases e2
      exact (g.keep c _ (h4 c ⟨_, pos, h1, h6⟩) h7).2
/-- a new thing that stands still -/
theorem Stp.new {p : Addr} {o : HO} (h : H p = none) : Stp G H G (upd H p o) :=
  ⟨rfl, rfl, List.prefix_refl _, fun a u _ e => by rw [upd_ne (ne_of_none e h)]; exact e, fun _ h => .inl h⟩
theorem MR.new {m : Mem} {p : Addr} {o : HO} (r : MR Γ G m H) (h : H p = none) : MR Γ G m (upd H p o) :=
  have ne : ∀ a, G.hot a → a ≠ p := fun a z e => r.live a z (e ▸ h)
  ⟨r.len, fun n c a e1 e2 => (r.cell n c a e1 e2).go (Stp.new h).go (upd_ne (ne a (hot_iff.mpr (.inl (List.mem_of_getElem? e2))))), r.nd, fun a z => by rw [upd_ne (ne a z)]; exact r.live a z⟩
theorem MR.cold {m : Mem} {p : Addr} (r : MR Γ G m H) (h : H p = none) : ¬ G.hot p := fun z => r.live p z h
end

/-! ## reading: what a tree stands for as a list, a tuple, a dict, an instance -/
/-- as VR, its root may be owned -/
def VB (Γ : Gm) (G : Gh) (H : Hp) (t : T) (v : V) : Prop := VR Γ G H t v ∨ ∃ a, v = .ref a ∧ a ∈ G.ow.map (·.2) ∧ RootR Γ G H a t
/-- a list that may be added to another .. -/
def asX (m : Mem) : T → Option (List T)
  | .lst xs => some xs
  | .obj n => match m[n]? with | some (.lst xs) => some xs | _ => none
  | _ => none
/-- one that is read: the script, too -/
def asL (m : Mem) : T → Option (List T)
  | .scr ns => some (ns.map T.int)
  | t => asX m t
def asT : T → Option (List T)
  | .tup xs => some xs
  | _ => none
def asD (m : Mem) : T → Option (List (TK × T))
  | .dct xs => some xs
  | .obj n => match m[n]? with | some (.dct xs) => some xs | _ => none
  | _ => none
def asI (m : Mem) : T → Option (String × List (String × T))
  | .ins C fs => some (C, fs)
  | .obj n => match m[n]? with | some (.ins C fs) => some (C, fs) | _ => none
  | _ => none
section
variable {Γ : Gm} {G G' G2 : Gh} {H H' H2 : Hp} {v : V} {t : T} {m : Mem}
theorem VB.of (h : VR Γ G H t v) : VB Γ G H t v := .inl h
theorem VB.step (h : VB Γ G H t v) (n : G.all.Nodup) (s : Stp G H G' H') : VB Γ G' H' t v := by
  rcases h with h | ⟨a, e, z, h⟩
  · exact .inl (s.vr h)
  · exact .inr ⟨a, e, by rw [s.ow]; exact z, h.go s.go fun o q => s.fr a o (fun y => ((nd3 n).1 y).1 z) q⟩
theorem MR.obj {n : Nat} {c : Cell} (r : MR Γ G m H) (h : VR Γ G H (.obj n) v) (e : m[n]? = some c) : ∃ a, v = .ref a ∧ G.rho[n]? = some a ∧ CR Γ G H a c := by
  obtain ⟨a, e1, e2⟩ := vr_obj.mp h
  exact ⟨a, e1, e2, r.cell n c a e e2⟩
theorem MR.obj' {n : Nat} {c : Cell} (r : MR Γ G m H) (h : VB Γ G H (.obj n) v) (e : m[n]? = some c) : ∃ a, v = .ref a ∧ G.rho[n]? = some a ∧ CR Γ G H a c := by
  rcases h with h | ⟨a, _, _, h⟩
  · exact r.obj h e
  · exact h.elim
theorem VB.atom (h : VB Γ G H t v) (e : ∀ a, RootR Γ G H a t → False) : VR Γ G H t v := by
  rcases h with h | ⟨a, _, _, h⟩
  · exact h
  · exact (e a h).elim
theorem rdX {ts : List T} (r : MR Γ G m H) (h : VB Γ G H t v) (e : asX m t = some ts) : ∃ a us, v = .ref a ∧ H a = some (.lst us) ∧ VRs Γ G H ts us := by
  cases t with
  | lst xs =>
    cases (show xs = ts from Option.some.inj e)
    rcases h with h | ⟨a, e1, _, us, h1, h2⟩
    · obtain ⟨a, us, e1, _, z, h2⟩ := vr_lst.mp h
      exact ⟨a, us, e1, z, h2⟩
    · exact ⟨a, us, e1, h1, h2⟩
  | obj n =>
    simp only [asX] at e
    split at e
    · rename_i xs hx
      cases e
      obtain ⟨a, e1, _, us, h1, h2⟩ := r.obj' h hx
      exact ⟨a, us, e1, h1, h2⟩
    · cases e
  | _ => cases e
theorem rdL {ts : List T} (r : MR Γ G m H) (h : VB Γ G H t v) (e : asL m t = some ts) : ∃ a us, v = .ref a ∧ SqL Γ.K H a us ∧ VRs Γ G H ts us := by
  have key : asX m t = some ts → ∃ a us, v = .ref a ∧ SqL Γ.K H a us ∧ VRs Γ G H ts us := fun e => by
    obtain ⟨a, us, e1, e2, e3⟩ := rdX r h e
    exact ⟨a, us, e1, SqL.of e2, e3⟩
  cases t with
  | scr ns =>
    cases (show ns.map T.int = ts from Option.some.inj e)
    rcases h with h | ⟨a, e1, _, h⟩
    · obtain ⟨a, e1, z⟩ := vr_scr.mp h
      exact ⟨a, _, e1, z.elim (fun z => .inl z.2) .inr, VRs.ints.mpr rfl⟩
    · exact h.elim
  | _ => exact key e
theorem rdT {ts : List T} (h : VB Γ G H t v) (e : asT t = some ts) : ∃ a us, v = .ref a ∧ SqT Γ.K H a us ∧ VRs Γ G H ts us := by
  cases t with
  | tup xs =>
    cases (show xs = ts from Option.some.inj e)
    rcases h with h | ⟨a, _, _, h⟩
    · obtain ⟨a, us, e1, z, h2⟩ := vr_tup.mp h
      exact ⟨a, us, e1, z.elim (fun z => .inl z.2) .inr, h2⟩
    · exact h.elim
  | _ => cases e
theorem rdD {ts : List (TK × T)} (r : MR Γ G m H) (h : VB Γ G H t v) (e : asD m t = some ts) : ∃ a us, v = .ref a ∧ Rd H a (.dK us) ∧ VRd Γ G H ts us := by
  cases t with
  | dct xs =>
    cases (show xs = ts from Option.some.inj e)
    rcases h with h | ⟨a, e1, _, us, h1, h2⟩
    · obtain ⟨a, us, e1, _, z, h2⟩ := vr_dct.mp h
      exact ⟨a, us, e1, z, h2⟩
    · exact ⟨a, us, e1, .inl h1, h2⟩
  | obj n =>
    simp only [asD] at e
    split at e
    · rename_i xs hx
      cases e
      obtain ⟨a, e1, _, us, h1, h2⟩ := r.obj' h hx
      exact ⟨a, us, e1, .inl h1, h2⟩
    · cases e
  | _ => cases e
theorem rdI {C : String} {fs : List (String × T)} (r : MR Γ G m H) (h : VB Γ G H t v) (e : asI m t = some (C, fs)) : ∃ a dx us, v = .ref a ∧ H a = some (.ins (ga Γ.K C) dx us) ∧ InsK Γ C fs ∧ VRf Γ G H fs us := by
  cases t with
  | ins D gs =>
    cases (show (D, gs) = (C, fs) from Option.some.inj e)
    rcases h with h | ⟨a, _, _, h⟩
    · obtain ⟨a, dx, us, e1, _, z, k, h2⟩ := vr_ins.mp h
      exact ⟨a, dx, us, e1, z, k, h2⟩
    · exact h.elim
  | obj n =>
    simp only [asI] at e
    split at e
    · rename_i D gs hx
      cases e
      obtain ⟨a, e1, _, dx, us, h1, h2, h3⟩ := r.obj' h hx
      exact ⟨a, dx, us, e1, h1, h2, h3⟩
    · cases e
  | _ => cases e
end
end AM
set_option maxHeartbeats 4000000
namespace AM
open PySem PySem.Spec PyProof.Rows L2 Eb
/-! ## readings over trees -/
abbrev Exn := String × List (String × T)
abbrev PX := T → Mem → Prop
abbrev FX := Exn → Mem → Prop
abbrev AG0 (α : Type) := SS → Mem → (α → Mem → Prop) → FX → Prop
abbrev AE := AG0 T
abbrev AT := AG0 Bool
abbrev AA := AG0 (List T)
structure EA where
  nx : SS → Mem → Prop
  rt : PX
  bk : SS → Mem → Prop
  ct : SS → Mem → Prop
  ex : SS → FX
abbrev AS := EA → SS → Mem → Prop
abbrev AF := List T → Mem → PX → FX → Prop
/-- an exception -/
def XR (Γ : Gm) (G : Gh) (H : Hp) (x : Exn) (c : Value) (d : Option Addr) : Prop := c = .ref (ga Γ.K x.1) ∧ ∃ dd us, d = some dd ∧ ¬ G.hot dd ∧ H dd = some (.xd us) ∧ VRf Γ G H x.2 us
theorem XR.go {Γ : Gm} {G G' : Gh} {H H' : Hp} {x : Exn} {c : Value} {d : Option Addr} (h : XR Γ G H x c d) (g : Go G H G' H') : XR Γ G' H' x c d :=
  let ⟨e1, dd, us, e2, n, e3, e4⟩ := h; ⟨e1, dd, us, e2, (g.keep dd _ n e3).2, (g.keep dd _ n e3).1, e4.go g⟩
/-- what comes behind -/
structure Cont {α β : Type} (Rl : Gh → Hp → α → β → Prop) (Γ : Gm) (W : WX) (G : Gh) (H : Hp) (σ : L2.St) (P : α → Mem → Prop) (F : FX) (Q : β → Hp → Prop) : Prop where
  ok : ∀ t m' G' v H', P t m' → Stp G H G' H' → MR Γ G' m' H' → Rl G' H' t v → Q v H'
  ex : ∀ x m' G' H' c d, F x m' → Stp G H G' H' → MR Γ G' m' H' → XR Γ G' H' x c d → W c d σ H'
def rOf {α β : Type} (Rl : Gh → Hp → α → β → Prop) (Γ : Gm) (W : WX) (a : AG0 α) : L2.St → Hp → (β → Hp → Prop) → Prop := fun σ H Q =>
  ∃ G z m P F, MR Γ G m H ∧ SR Γ G H z σ ∧ a z m P F ∧ Cont Rl Γ W G H σ P F Q
/-- the part that raises, moved on -/
theorem Cont.mv {α β γ δ : Type} {Rl : Gh → Hp → α → β → Prop} {Rl' : Gh → Hp → γ → δ → Prop} {Γ : Gm} {W : WX} {G G1 : Gh} {H H1 : Hp} {σ : L2.St} {P : α → Mem → Prop} {F : FX} {Q : β → Hp → Prop} {P' : γ → Mem → Prop} {Q' : δ → Hp → Prop}
    (k : Cont Rl Γ W G H σ P F Q) (s : Stp G H G1 H1) (ok : ∀ t m' G' v H', P' t m' → Stp G1 H1 G' H' → MR Γ G' m' H' → Rl' G' H' t v → Q' v H') : Cont Rl' Γ W G1 H1 σ P' F Q' :=
  ⟨ok, fun x m' G' H' c d h1 h2 h3 h4 => k.ex x m' G' H' c d h1 (s.trans h2) h3 h4⟩
/-- a statement's step -/
structure SStp (G : Gh) (H : Hp) (G' : Gh) (H' : Hp) : Prop where
  up : G'.up = G.up
  pre : G.rho <+: G'.rho
  fr : ∀ a o, a ∉ G.rho → a ∉ G.ow.map (·.2) → H a = some o → H' a = some o
  nw : ∀ a, G'.hot a → G.hot a ∨ H a = none
structure ContS (Γ : Gm) (W : WX) (G : Gh) (H : Hp) (D : EA) (E : Ends) : Prop where
  nx : ∀ z m' G' σ H', D.nx z m' → SStp G H G' H' → MR Γ G' m' H' → SR Γ G' H' z σ → E.nx σ H'
  rt : ∀ t m' G' v H', D.rt t m' → SStp G H G' H' → MR Γ G' m' H' → VR Γ G' H' t v → E.rt v H'
  bk : ∀ z m' G' σ H', D.bk z m' → SStp G H G' H' → MR Γ G' m' H' → SR Γ G' H' z σ → E.bk σ H'
  ct : ∀ z m' G' σ H', D.ct z m' → SStp G H G' H' → MR Γ G' m' H' → SR Γ G' H' z σ → E.ct σ H'
  ex : ∀ z x m' G' σ H' c d, D.ex z x m' → SStp G H G' H' → MR Γ G' m' H' → SR Γ G' H' z σ → XR Γ G' H' x c d → W c d σ H'
def sOf (Γ : Gm) (W : WX) (a : AS) : TS := fun E σ H => ∃ G z m D, MR Γ G m H ∧ SR Γ G H z σ ∧ a D z m ∧ ContS Γ W G H D E

section
variable {Γ : Gm} {G G' G2 : Gh} {H H' H2 : Hp} {v : V} {t : T} {m : Mem} {W : WX}
theorem Stp.ss (s : Stp G H G' H') : SStp G H G' H' := ⟨s.up, s.pre, fun a o n _ h => s.fr a o n h, fun a h => by
  rw [hot_iff] at h ⊢
  rw [s.ow, s.up] at h
  rcases h with h | h
  · exact (s.nw a h).imp .inl id
  · exact .inl (.inr h)⟩
theorem SStp.go (s : SStp G H G' H') : Go G H G' H' := ⟨s.pre, fun a o n h => by
  have n' := n
  rw [hot_iff] at n'
  refine ⟨s.fr a o (fun z => n' (.inl z)) (fun z => n' (.inr (.inl z))) h, fun z => ?_⟩
  rcases s.nw a z with q | q
  · exact n q
  · rw [q] at h; cases h⟩
theorem SStp.refl : SStp G H G H := Stp.refl.ss
theorem SStp.trans (a : SStp G H G' H') (b : SStp G' H' G2 H2) (n : G.all.Nodup) (n' : G'.all.Nodup) : SStp G H G2 H2 where
  up := b.up.trans a.up
  pre := a.pre.trans b.pre
  fr := fun x o n1 n2 h => by
    have h' := a.fr x o n1 n2 h
    have key : x ∉ G'.rho ∧ x ∉ G'.ow.map (·.2) := by
      by_cases c : G'.hot x
      · rcases a.nw x c with q | q
        · rw [hot_iff] at q
          rcases q with q | q | q
          · exact (n1 q).elim
          · exact (n2 q).elim
          · rw [← a.up] at q
            exact ⟨fun y => ((nd3 n').1 y).2 q, fun y => (nd3 n').2 y q⟩
        · rw [q] at h; cases h
      · rw [hot_iff] at c
        exact ⟨fun y => c (.inl y), fun y => c (.inr (.inl y))⟩
    exact b.fr x o key.1 key.2 h'
  nw := fun x z => by
    rcases b.nw x z with q | q
    · exact a.nw x q
    · by_cases c : G.hot x
      · exact .inl c
      · right
        have c' := c
        rw [hot_iff] at c'
        cases e : H x with
        | none => rfl
        | some o => rw [a.fr x o (fun y => c' (.inl y)) (fun y => c' (.inr (.inl y))) e] at q; cases q
theorem ContS.step {D : EA} {E : Ends} (k : ContS Γ W G H D E) (s : SStp G H G' H') (n : G.all.Nodup) (n' : G'.all.Nodup) : ContS Γ W G' H' D E :=
  ⟨fun z m' G2 σ H2 h1 h2 h3 h4 => k.nx z m' G2 σ H2 h1 (s.trans h2 n n') h3 h4, fun z m' G2 σ H2 h1 h2 h3 h4 => k.rt z m' G2 σ H2 h1 (s.trans h2 n n') h3 h4,
   fun z m' G2 σ H2 h1 h2 h3 h4 => k.bk z m' G2 σ H2 h1 (s.trans h2 n n') h3 h4, fun z m' G2 σ H2 h1 h2 h3 h4 => k.ct z m' G2 σ H2 h1 (s.trans h2 n n') h3 h4,
   fun z x m' G2 σ H2 c d h1 h2 h3 h4 h5 => k.ex z x m' G2 σ H2 c d h1 (s.trans h2 n n') h3 h4 h5⟩
/-- an expression within a statement -/
theorem ContS.ex' {D : EA} {E : Ends} {α β : Type} {Rl : Gh → Hp → α → β → Prop} {z : SS} {σ : L2.St} {P : α → Mem → Prop} {Q : β → Hp → Prop} (k : ContS Γ W G H D E) (n : G.all.Nodup) (sr : SR Γ G H z σ)
    (ok : ∀ t m' G' v H', P t m' → Stp G H G' H' → MR Γ G' m' H' → Rl G' H' t v → Q v H') : Cont Rl Γ W G H σ P (D.ex z) Q :=
  ⟨ok, fun x m' G' H' c d h1 h2 h3 h4 => k.ex z x m' G' σ H' c d h1 h2.ss h3 (sr.step n h2) h4⟩
end
theorem pe_weak {X : Cx} {e : Expr} {t t' : TE} (h : PE X e t) (w : ∀ σ H Q, t' σ H Q → t σ H Q) : PE X e t' := ⟨fun pins s σ H Q I hq => h.run pins s σ H Q I (w σ H Q hq)⟩
theorem pt_weak {X : Cx} {e : Expr} {t t' : TT} (h : PT X e t) (w : ∀ σ H Q, t' σ H Q → t σ H Q) : PT X e t' := ⟨fun pins s σ H Q I hq => h.run pins s σ H Q I (w σ H Q hq)⟩
theorem pw_weak {X : Cx} {e : Expr} {t t' : TT} (h : PW X e t) (w : ∀ σ H Q, t' σ H Q → t σ H Q) : PW X e t' := ⟨fun wh pins s σ H Q I hq => h.run wh pins s σ H Q I (w σ H Q hq)⟩
theorem pa_weak {X : Cx} {e : List Expr} {t t' : TA} (h : PA X e t) (w : ∀ σ H Q, t' σ H Q → t σ H Q) : PA X e t' := ⟨fun pos pins s σ H Q I hq => h.run pos pins s σ H Q I (w σ H Q hq)⟩
theorem ps_weak {X : Cx} {e : Stmt} {t t' : TS} (h : PS X e t) (w : ∀ D σ H, t' D σ H → t D σ H) : PS X e t' := ⟨fun pins s σ H D I hq => h.run pins s σ H D I (w D σ H hq)⟩
theorem pss_weak {X : Cx} {e : List Stmt} {t t' : TS} (h : PSs X e t) (w : ∀ D σ H, t' D σ H → t D σ H) : PSs X e t' := ⟨fun pins s σ H D I hq => h.run pins s σ H D I (w D σ H hq)⟩
theorem pi_weak {X : Cx} {tg e : Expr} {t t' : TI} (h : PI X tg e t) (w : ∀ σ H R, t' σ H R → t σ H R) : PI X tg e t' := ⟨fun pins s σ H R I hq => h.run pins s σ H R I (w σ H R hq)⟩

abbrev go (X : Cx) (cls : List String) : Gm := ⟨X.K, cls⟩
/-- the context of the proofs: the classes of one's own, what is wanted of exceptions -/
structure Cl where
  cls : List String
  W : WX
def VBs (Γ : Gm) (G : Gh) (H : Hp) : List T → List V → Prop := Paired (VB Γ G H)
/-- an expression (its value stands still), one that may be owned, a fresh one, a test, arguments -/
def SE (c : Cl) (X : Cx) (e : Expr) (a : AE) : Prop := PE X e (rOf (VR (go X c.cls)) (go X c.cls) c.W a)
def SB (c : Cl) (X : Cx) (e : Expr) (a : AE) : Prop := PE X e (rOf (VB (go X c.cls)) (go X c.cls) c.W a)
def ST (c : Cl) (X : Cx) (e : Expr) (a : AT) : Prop := PT X e (rOf (fun _ _ b k => b = k) (go X c.cls) c.W a)
def SW (c : Cl) (X : Cx) (e : Expr) (a : AT) : Prop := PW X e (rOf (fun _ _ b k => b = k) (go X c.cls) c.W a)
def SA (c : Cl) (X : Cx) (es : List Expr) (a : AA) : Prop := PA X es (rOf (fun G H ts us => VRs (go X c.cls) G H ts us ∧ us.length = es.length) (go X c.cls) c.W a)
def SAB (c : Cl) (X : Cx) (es : List Expr) (a : AA) : Prop := PA X es (rOf (VBs (go X c.cls)) (go X c.cls) c.W a)
def S1 (c : Cl) (X : Cx) (st : Stmt) (a : AS) : Prop := PS X st (sOf (go X c.cls) c.W a)
def S2 (c : Cl) (X : Cx) (st : List Stmt) (a : AS) : Prop := PSs X st (sOf (go X c.cls) c.W a)
/-- fresh: the root at p stands in up -/
structure ContF (Γ : Gm) (W : WX) (G : Gh) (H : Hp) (σ : L2.St) (P : PX) (F : FX) (Q : VK) : Prop where
  ok : ∀ t m' G' p H', P t m' → Stp ⟨G.rho, G.ow, p :: G.up⟩ H G' H' → H p = none → MR Γ G' m' H' → RootR Γ G' H' p t → Q (.ref p) H'
  ex : ∀ x m' G' H' c d, F x m' → Stp G H G' H' → MR Γ G' m' H' → XR Γ G' H' x c d → W c d σ H'
def fOf (Γ : Gm) (W : WX) (a : AE) : TE := fun σ H Q => ∃ G z m P F, MR Γ G m H ∧ SR Γ G H z σ ∧ a z m P F ∧ ContF Γ W G H σ P F Q
def SF (c : Cl) (X : Cx) (e : Expr) (a : AE) : Prop := PE X e (fOf (go X c.cls) c.W a)
section
variable {c : Cl} {X : Cx} {e : Expr} {a : AE}
theorem SE.sb (h : SE c X e a) : SB c X e a := pe_weak h fun σ H Q ⟨G, z, m, P, F, mr, sr, ha, k⟩ => ⟨G, z, m, P, F, mr, sr, ha, ⟨fun t m' G' v H' p s r vr => k.ok t m' G' v H' p s r (.inl vr), k.ex⟩⟩
/-- without p -/
def Gh.off (G : Gh) (up : List Addr) : Gh := ⟨G.rho, G.ow, up⟩
theorem Go.less {Γ : Gm} {G G' : Gh} {H : Hp} (e : G'.rho = G.rho) (h : ∀ a, G'.hot a → G.hot a) : Go G H G' H := ⟨by rw [e]; exact List.prefix_refl _, fun a o n z => ⟨z, fun y => n (h a y)⟩⟩
theorem CR.go' {Γ : Gm} {G G' : Gh} {H : Hp} {x : Addr} {cl : Cell} (g : Go G H G' H) (h : CR Γ G H x cl) : CR Γ G' H x cl := h.go g rfl
theorem MR.off {Γ : Gm} {G : Gh} {m : Mem} {H : Hp} {p : Addr} {up : List Addr} (r : MR Γ G m H) (e : G.up = p :: up) : MR Γ (G.off up) m H := by
  have hh : ∀ a, (G.off up).hot a → G.hot a := fun a z => by
    rw [hot_iff] at z ⊢
    rcases z with z | z | z
    · exact .inl z
    · exact .inr (.inl z)
    · exact .inr (.inr (by rw [e]; exact List.mem_cons_of_mem _ z))
  refine ⟨r.len, fun n cl a e1 e2 => (r.cell n cl a e1 e2).go' (Go.less (Γ := Γ) (G := G) (G' := G.off up) (H := H) rfl hh), ?_, fun a z => r.live a (hh a z)⟩
  have := r.nd
  unfold Gh.all at this ⊢
  rw [e] at this
  exact this.sublist (List.Sublist.append_left (List.sublist_cons_self _ _) _)
theorem p_off {Γ : Gm} {G : Gh} {m : Mem} {H : Hp} {p : Addr} {up : List Addr} (r : MR Γ G m H) (e : G.up = p :: up) : ¬ (G.off up).hot p := fun z => by
  have n := r.nd
  have n3 := fun a => nd3 (a := a) n
  rw [hot_iff] at z
  have hp : p ∈ G.up := by rw [e]; exact List.mem_cons_self
  rcases z with z | z | z
  · exact ((n3 p).1 z).2 hp
  · exact (n3 p).2 z hp
  · unfold Gh.all at n
    rw [List.nodup_append] at n
    have := n.2.1
    rw [e] at this
    exact (List.nodup_cons.mp this).1 z
/-- a fresh one put down -/
theorem Stp.off {G G' : Gh} {H H' : Hp} {p : Addr} (s : Stp ⟨G.rho, G.ow, p :: G.up⟩ H G' H') : Stp G H (G'.off G.up) H' := ⟨s.ow, rfl, s.pre, s.fr, s.nw⟩
theorem f_of_r {Γ : Gm} {W : WX} {a : AE} {σ : L2.St} {H : Hp} {Q : VK} (h : rOf (VR Γ) Γ W a σ H Q) : fOf Γ W a σ H Q := by
  obtain ⟨G, z, m, P, F, mr, sr, ha, k⟩ := h
  refine ⟨G, z, m, P, F, mr, sr, ha, ⟨fun t m' G' p H' pt s np r rt => ?_, k.ex⟩⟩
  have e : G'.up = p :: G.up := s.up
  have g : Go G' H' (G'.off G.up) H' := Go.less (Γ := Γ) rfl fun a z => by
    rw [hot_iff] at z ⊢
    rcases z with z | z | z
    · exact .inl z
    · exact .inr (.inl z)
    · exact .inr (.inr (by rw [e]; exact List.mem_cons_of_mem _ z))
  refine k.ok t m' (G'.off G.up) (.ref p) H' pt s.off (r.off e) ?_
  cases t with
  | lst ts => obtain ⟨us, h1, h2⟩ := rt; exact vr_lst.mpr ⟨p, us, rfl, p_off r e, h1, h2.go g⟩
  | dct ts => obtain ⟨us, h1, h2⟩ := rt; exact vr_dct.mpr ⟨p, us, rfl, p_off r e, .inl h1, h2.go g⟩
  | _ => exact rt.elim
theorem SF.se (h : SF c X e a) : SE c X e a := pe_weak h fun σ H Q h => f_of_r h
def cellOf : T → Option Cell
  | .lst ts => some (.lst ts)
  | .dct ts => some (.dct ts)
  | _ => none
/-- a fresh one becomes a cell -/
def aCell (a : AE) : AE := fun z m P F => a z m (fun t m1 => match cellOf t with | some c => P (.obj m1.length) (m1 ++ [c]) | none => False) F
theorem MR.add {Γ : Gm} {G : Gh} {m : Mem} {H : Hp} {p : Addr} {up : List Addr} {cl : Cell} (r : MR Γ G m H) (e : G.up = p :: up) (hc : CR Γ G H p cl) : MR Γ ⟨G.rho ++ [p], G.ow, up⟩ (m ++ [cl]) H := by
  have hh : ∀ a, Gh.hot ⟨G.rho ++ [p], G.ow, up⟩ a → G.hot a := fun a z => by
    rw [hot_iff] at z ⊢
    rcases z with z | z | z
    · rcases List.mem_append.mp z with z | z
      · exact .inl z
      · cases List.mem_singleton.mp z; exact .inr (.inr (by rw [e]; exact List.mem_cons_self))
    · exact .inr (.inl z)
    · exact .inr (.inr (by rw [e]; exact List.mem_cons_of_mem _ z))
  have g : Go G H ⟨G.rho ++ [p], G.ow, up⟩ H := ⟨List.prefix_append _ _, fun a o n z => ⟨z, fun y => n (hh a y)⟩⟩
  refine ⟨by simp [r.len], fun n c' a e1 e2 => ?_, ?_, fun a z => r.live a (hh a z)⟩
  · by_cases h : n < m.length
    · rw [List.getElem?_append_left h] at e1
      rw [List.getElem?_append_left (by rw [← r.len]; exact h)] at e2
      exact (r.cell n c' a e1 e2).go' g
    · have hn : n = m.length := by
        have := (List.getElem?_eq_some_iff.mp e1).1
        simp at this
        omega
      subst hn
      rw [List.getElem?_append_right (Nat.le_refl _)] at e1
      rw [List.getElem?_append_right (by rw [r.len]; exact Nat.le_refl _), r.len] at e2
      simp at e1 e2
      subst e1 e2
      exact hc.go' g
  · have n := r.nd
    unfold Gh.all at n ⊢
    rw [e] at n
    refine (List.Perm.nodup_iff ?_).mp n
    simp only [List.append_assoc]
    refine List.Perm.append_left _ ?_
    exact List.perm_middle
theorem SF.cell (h : SF c X e a) : SE c X e (aCell a) := pe_weak h fun σ H Q ⟨G, z, m, P, F, mr, sr, ha, k⟩ => ⟨G, z, m, _, F, mr, sr, ha, ⟨fun t m' G' p H' pt s np r rt => by
  have e : G'.up = p :: G.up := s.up
  have st : Stp G H ⟨G'.rho ++ [p], G'.ow, G.up⟩ H' := ⟨s.ow, rfl, s.pre.trans (List.prefix_append _ _), s.fr, fun a z => by
    rcases List.mem_append.mp z with z | z
    · exact s.nw a z
    · cases List.mem_singleton.mp z; exact .inr np⟩
  have hv : VR (go X c.cls) ⟨G'.rho ++ [p], G'.ow, G.up⟩ H' (.obj m'.length) (.ref p) := vr_obj.mpr ⟨p, rfl, by
    show (G'.rho ++ [p])[m'.length]? = some p
    rw [r.len]; simp⟩
  cases t with
  | lst ts => exact k.ok _ _ _ _ _ pt st (r.add e (cl := .lst ts) rt) hv
  | dct ts => exact k.ok _ _ _ _ _ pt st (r.add e (cl := .dct ts) rt) hv
  | _ => exact rt.elim, k.ex⟩⟩
end
end AM
set_option maxHeartbeats 4000000
namespace AM
open PySem PySem.Spec PyProof.Rows L2 Eb
/-! ## expressions -/
@[simp] def aVar (i : Nat) : AE := fun z m P _ => match z[i]? with | some (some (.v t)) => P t m | _ => False
@[simp] def aVarB (i : Nat) : AE := fun z m P _ => match z[i]? with | some (some (.v t)) => P t m | some (some (.o t)) => P t m | _ => False
@[simp] def aC (t : T) : AE := fun _ m P _ => P t m
abbrev A2 := T → T → Mem → PX → Prop
abbrev A1 := T → Mem → PX → Prop
abbrev AL := List T → Mem → PX → Prop
@[simp] def a2 (f : A2) (a b : AE) : AE := fun z m P F => a z m (fun x m1 => b z m1 (fun y m2 => f x y m2 P) F) F
@[simp] def a1 (f : A1) (a : AE) : AE := fun z m P F => a z m (fun x m1 => f x m1 P) F
@[simp] def aL (f : AL) (a : AA) : AE := fun z m P F => a z m (fun x m1 => f x m1 P) F
@[simp] def aNil : AA := fun _ m P _ => P [] m
@[simp] def aCons (a : AE) (r : AA) : AA := fun z m P F => a z m (fun x m1 => r z m1 (fun xs m2 => P (x :: xs) m2) F) F
@[simp] def aTup (a : AA) : AE := fun z m P F => a z m (fun xs m1 => xs.length ≤ sizeLine ∧ P (.tup xs) m1) F
@[simp] def aLst (a : AA) : AE := fun z m P F => a z m (fun xs m1 => xs.length ≤ sizeLine ∧ P (.lst xs) m1) F
@[simp] def Tru (m : Mem) (t : T) (k : Bool → Prop) : Prop := match t with
  | .non => k false
  | .bl b => k b
  | .int i => k (i != 0)
  | .str l => k (!l.isEmpty)
  | .tup xs => k (!xs.isEmpty)
  | .lst xs => k (!xs.isEmpty)
  | .obj n => match m[n]? with
    | some (.lst xs) => k (!xs.isEmpty)
    | some (.dct xs) => k (!xs.isEmpty)
    | _ => False
  | _ => False
@[simp] def aTru (a : AE) : AT := fun z m P F => a z m (fun t m1 => Tru m1 t fun b => P b m1) F
@[simp] def aTest (a : AE) : AT := fun z m P F => a z m (fun t m1 => match t with | .bl b => P b m1 | _ => False) F
@[simp] def aNotT (a : AT) : AT := fun z m P F => a z m (fun b m1 => P (!b) m1) F
@[simp] def aAndT (a b : AT) : AT := fun z m P F => a z m (fun k m1 => if k = true then b z m1 P F else P false m1) F
@[simp] def aOrT (a b : AT) : AT := fun z m P F => a z m (fun k m1 => if k = true then P true m1 else b z m1 P F) F
@[simp] def aAnd (a b : AE) : AE := fun z m P F => a z m (fun t m1 => Tru m1 t fun k => if k = true then b z m1 P F else P t m1) F
@[simp] def aOr (a b : AE) : AE := fun z m P F => a z m (fun t m1 => Tru m1 t fun k => if k = true then P t m1 else b z m1 P F) F
@[simp] def aNot (a : AE) : AE := fun z m P F => a z m (fun t m1 => Tru m1 t fun k => P (.bl (!k)) m1) F
@[simp] def aIf (t : AT) (a b : AE) : AE := fun z m P F => t z m (fun k m1 => if k = true then a z m1 P F else b z m1 P F) F
@[simp] def aChain (f g : A2) (a b d : AE) : AE := fun z m P F => a z m (fun x m1 => b z m1 (fun y m2 => f x y m2 fun t m3 => match t with
  | .bl k => if k = true then d z m3 (fun w m4 => g y w m4 P) F else P (.bl false) m3
  | _ => False) F) F
/-- an operation by values -/
def Sim2 (Γ : Gm) (r : R2) (f : A2) : Prop := ∀ G m H x y v u (P : PX) (Q : VK), MR Γ G m H → VB Γ G H x v → VB Γ G H y u → f x y m P → (∀ t m' G' w H', P t m' → Stp G H G' H' → MR Γ G' m' H' → VR Γ G' H' t w → Q w H') → r v u H Q
def Sim1 (Γ : Gm) (r : V → Hp → VK → Prop) (f : A1) : Prop := ∀ G m H x v (P : PX) (Q : VK), MR Γ G m H → VB Γ G H x v → f x m P → (∀ t m' G' w H', P t m' → Stp G H G' H' → MR Γ G' m' H' → VR Γ G' H' t w → Q w H') → r v H Q
def SimL (Γ : Gm) (r : List V → Hp → VK → Prop) (f : AL) : Prop := ∀ G m H x v (P : PX) (Q : VK), MR Γ G m H → VBs Γ G H x v → f x m P → (∀ t m' G' w H', P t m' → Stp G H G' H' → MR Γ G' m' H' → VR Γ G' H' t w → Q w H') → r v H Q
/-- .. that gives a new list, a new dict -/
def Fsh (Γ : Gm) (G : Gh) (H : Hp) (m : Mem) (P : PX) (Q : VK) : Prop :=
  (∀ ts us p, P (.lst ts) m → VRs Γ G H ts us → H p = none → Q (.ref p) (upd H p (.lst us))) ∧ (∀ ts us p, P (.dct ts) m → VRd Γ G H ts us → H p = none → Q (.ref p) (upd H p (.dK us)))
def Sim2F (Γ : Gm) (r : R2) (f : A2) : Prop := ∀ G m H x y v u (P : PX) (Q : VK), MR Γ G m H → VB Γ G H x v → VB Γ G H y u → f x y m P → Fsh Γ G H m P Q → r v u H Q
def SimLF (Γ : Gm) (r : List V → Hp → VK → Prop) (f : AL) : Prop := ∀ G m H x v (P : PX) (Q : VK), MR Γ G m H → VBs Γ G H x v → f x m P → Fsh Γ G H m P Q → r v H Q
section
variable {Γ : Gm} {W : WX} {G G' G2 : Gh} {H H' H2 : Hp} {v : V} {t : T} {m : Mem} {σ : L2.St} {P : PX} {F : FX} {Q : VK}
theorem up_mr {p : Addr} {o : HO} (r : MR Γ G m H) (np : H p = none) : MR Γ ⟨G.rho, G.ow, p :: G.up⟩ m (upd H p o) := by
  have ne : ∀ a, G.hot a → a ≠ p := fun a z e => r.live a z (e ▸ np)
  have hot : ∀ a, Gh.hot ⟨G.rho, G.ow, p :: G.up⟩ a → a = p ∨ G.hot a := fun a z => by
    rw [hot_iff] at z ⊢
    rcases z with z | z | z
    · exact .inr (.inl z)
    · exact .inr (.inr (.inl z))
    · rcases List.mem_cons.mp z with z | z
      · exact .inl z
      · exact .inr (.inr (.inr z))
  have g : Go G H ⟨G.rho, G.ow, p :: G.up⟩ (upd H p o) := ⟨List.prefix_refl _, fun a u n h => by
    refine ⟨by rw [upd_ne (ne_of_none h np)]; exact h, fun z => ?_⟩
    rcases hot a z with e | e
    · rw [e, np] at h; cases h
    · exact n e⟩
  refine ⟨r.len, fun n c a e1 e2 => (r.cell n c a e1 e2).go g (upd_ne (ne a (hot_iff.mpr (.inl (List.mem_of_getElem? e2))))), ?_, fun a z => ?_⟩
  · have n := r.nd
    have np' : p ∉ G.all := fun z => r.live p z np
    unfold Gh.all at n np' ⊢
    have := List.nodup_cons.mpr ⟨np', n⟩
    refine (List.Perm.nodup_iff ?_).mp this
    exact List.perm_middle.symm
  · rcases hot a z with e | e
    · rw [e, upd_same]; simp
    · rw [upd_ne (ne a e)]; exact r.live a e
theorem up_go {p : Addr} {o : HO} (r : MR Γ G m H) (np : H p = none) : Go G H ⟨G.rho, G.ow, p :: G.up⟩ (upd H p o) := ⟨List.prefix_refl _, fun a u n h => by
    refine ⟨by rw [upd_ne (ne_of_none h np)]; exact h, fun z => ?_⟩
    rw [hot_iff] at z n
    rcases z with z | z | z
    · exact n (.inl z)
    · exact n (.inr (.inl z))
    · rcases List.mem_cons.mp z with z | z
      · rw [z, np] at h; cases h
      · exact n (.inr (.inr z))⟩
theorem up_stp {p : Addr} {o : HO} (np : H p = none) : Stp ⟨G.rho, G.ow, p :: G.up⟩ H ⟨G.rho, G.ow, p :: G.up⟩ (upd H p o) :=
  ⟨rfl, rfl, List.prefix_refl _, fun a u _ e => by rw [upd_ne (ne_of_none e np)]; exact e, fun _ h => .inl h⟩
theorem Stp.upd {G G1 G' : Gh} {H H1 H' : Hp} {p : Addr} (s : Stp G H G1 H1) (s2 : Stp ⟨G1.rho, G1.ow, p :: G1.up⟩ H1 G' H') : Stp ⟨G.rho, G.ow, p :: G.up⟩ H G' H' :=
  Stp.trans (G' := ⟨G1.rho, G1.ow, p :: G1.up⟩) (H' := H1) ⟨s.ow, by show p :: G1.up = p :: G.up; rw [s.up], s.pre, s.fr, s.nw⟩ s2
theorem fsh_of {G1 : Gh} {H1 : Hp} {m1 : Mem} (k : ContF Γ W G H σ P F Q) (s : Stp G H G1 H1) (hn : ∀ p, H1 p = none → H p = none) (r : MR Γ G1 m1 H1) : Fsh Γ G1 H1 m1 P Q :=
  ⟨fun ts us p h1 h2 np => k.ok (.lst ts) m1 ⟨G1.rho, G1.ow, p :: G1.up⟩ p _ h1 (s.upd (up_stp np)) (hn p np) (up_mr r np) ⟨us, upd_same, h2.go (up_go r np)⟩,
   fun ts us p h1 h2 np => k.ok (.dct ts) m1 ⟨G1.rho, G1.ow, p :: G1.up⟩ p _ h1 (s.upd (up_stp np)) (hn p np) (up_mr r np) ⟨us, upd_same, h2.go (up_go r np)⟩⟩
theorem free_of (r : MR Γ G m H) (r' : MR Γ G' m H') (s : Stp G H G' H') {p : Addr} (h : H' p = none) : H p = none := by
  by_cases c : p ∈ G.rho
  · exact ((r'.live p (hot_iff.mpr (.inl (s.pre.subset c)))) h).elim
  · cases e : H p with
    | none => rfl
    | some o => rw [s.fr p o c e] at h; cases h
theorem free_of' {m' : Mem} (r' : MR Γ G' m' H') (s : Stp G H G' H') {p : Addr} (h : H' p = none) : H p = none := by
  by_cases c : p ∈ G.rho
  · exact ((r'.live p (hot_iff.mpr (.inl (s.pre.subset c)))) h).elim
  · cases e : H p with
    | none => rfl
    | some o => rw [s.fr p o c e] at h; cases h
theorem VBs.step : ∀ {ts : List T} {vs : List V}, VBs Γ G H ts vs → G.all.Nodup → Stp G H G' H' → VBs Γ G' H' ts vs
  | _, _, .nil, _, _ => .nil
  | _, _, .cons h t, n, s => .cons (h.step n s) (VBs.step t n s)
theorem VRs.vbs : ∀ {ts : List T} {vs : List V}, VRs Γ G H ts vs → VBs Γ G H ts vs
  | [], _, h => by rw [vrs_nil.mp h]; exact .nil
  | t :: ts, _, h => by obtain ⟨v, r, rfl, h1, h2⟩ := vrs_cons.mp h; exact .cons (.inl h1) h2.vbs
theorem isE {α β : Type} {a : List α} {b : List β} (h : a.length = b.length) : a.isEmpty = b.isEmpty := by
  cases a <;> cases b <;> simp at h ⊢
theorem tru_of (r : MR Γ G m H) (h : VB Γ G H t v) {k : Bool → Prop} (e : Tru m t k) : ∃ b, TruV Γ.K v H b ∧ k b := by
  cases t with
  | non => cases vr_non.mp (h.atom fun _ z => z); exact ⟨_, rfl, e⟩
  | bl b => cases vr_bl.mp (h.atom fun _ z => z); exact ⟨_, rfl, e⟩
  | int i => cases vr_int.mp (h.atom fun _ z => z); exact ⟨_, rfl, e⟩
  | str l =>
    obtain ⟨rfl, hl⟩ := vr_str.mp (h.atom fun _ z => z)
    refine ⟨_, ⟨by rw [tx_len]; exact hl.len, rfl⟩, ?_⟩
    rw [tx_len]
    cases l with
    | nil => exact e
    | cons x y =>
      have : ((((x :: y).length : Nat) : Int) != 0) = true := by
        rw [List.length_cons]; simp; omega
      rw [this]; exact e
  | tup xs =>
    obtain ⟨a, us, rfl, z, hv⟩ := rdT h (ts := xs) rfl
    refine ⟨_, .inr (.inl ⟨us, z, rfl⟩), ?_⟩
    have : us.isEmpty = xs.isEmpty := isE hv.length
    rw [this]; exact e
  | lst xs =>
    obtain ⟨a, us, rfl, z, hv⟩ := rdL r h (ts := xs) rfl
    refine ⟨_, .inl ⟨us, z, rfl⟩, ?_⟩
    have : us.isEmpty = xs.isEmpty := isE hv.length
    rw [this]; exact e
  | dct xs => exact e.elim
  | kr k R => exact e.elim
  | exc a dd C fs => exact e.elim
  | obj n =>
    simp only [Tru] at e
    split at e
    · rename_i xs hx
      obtain ⟨a, us, rfl, z, hv⟩ := rdL r h (ts := xs) (by simp [asL, asX, hx])
      refine ⟨_, .inl ⟨us, z, rfl⟩, ?_⟩
      have : us.isEmpty = xs.isEmpty := isE hv.length
      rw [this]; exact e
    · rename_i xs hx
      obtain ⟨a, rfl, _, us, z, hv⟩ := r.obj' h hx
      refine ⟨_, .inr (.inr ⟨us, z, rfl⟩), ?_⟩
      have : us.isEmpty = xs.isEmpty := by
        cases xs with
        | nil => rw [vrd_nil.mp hv]; rfl
        | cons x y => obtain ⟨k, t⟩ := x; obtain ⟨_, _, rfl, _⟩ := vrd_cons.mp hv; rfl
      rw [this]; exact e
    · exact e.elim
  | cst _ => exact e.elim
  | scr _ => exact e.elim
  | ins _ _ => exact e.elim
end
section
variable {c : Cl} {X : Cx} {e x y w : Expr} {es rest : List Expr} {a b d : AE} {ta tb : AT} {l : AA} {pos : Pos}
theorem se_var {i : Nat} (h : PE X e (tVar i)) : SE c X e (aVar i) := pe_weak h fun σ H Q ⟨G, z, m, P, F, mr, sr, ha, k⟩ => by
  simp only [aVar] at ha
  split at ha
  · rename_i t hz
    obtain ⟨v, h1, h2⟩ := sr.val i t hz
    exact ⟨v, h1, k.ok t m G v H ha Stp.refl mr h2⟩
  · exact ha.elim
theorem sb_var {i : Nat} (h : PE X e (tVar i)) : SB c X e (aVarB i) := pe_weak h fun σ H Q ⟨G, z, m, P, F, mr, sr, ha, k⟩ => by
  simp only [aVarB] at ha
  split at ha
  · rename_i t hz
    obtain ⟨v, h1, h2⟩ := sr.val i t hz
    exact ⟨v, h1, k.ok t m G v H ha Stp.refl mr (.inl h2)⟩
  · rename_i t hz
    obtain ⟨p, h0, h1, h2⟩ := sr.own i t hz
    exact ⟨_, h1, k.ok t m G _ H ha Stp.refl mr (.inr ⟨p, rfl, own_mem h0, h2⟩)⟩
  · exact ha.elim
theorem se_c {t : T} {v : V} (h : PE X e (tC v)) (hv : ∀ G H, VR (go X c.cls) G H t v) : SE c X e (aC t) :=
  pe_weak h fun σ H Q ⟨G, z, m, P, F, mr, sr, ha, k⟩ => k.ok t m G v H ha Stp.refl mr (hv G H)
theorem se_int {i : Int} (h : PE X e (tC (.int i))) : SE c X e (aC (.int i)) := se_c h fun _ _ => vr_int.mpr rfl
theorem se_bl {i : Bool} (h : PE X e (tC (.bl i))) : SE c X e (aC (.bl i)) := se_c h fun _ _ => vr_bl.mpr rfl
theorem se_non (h : PE X e (tC .non)) : SE c X e (aC .non) := se_c h fun _ _ => vr_non.mpr rfl
theorem se_str {s : String} (h : PE X e (tC (.str (PySem.Str.ofString s)))) (hl : sokB (q s) = true) : SE c X e (aC (.str (q s))) := se_c h fun _ _ => vr_str.mpr ⟨by rw [tx_q], sok_of hl⟩
theorem se_cst {v : V} (h : PE X e (tC v)) : SE c X e (aC (.cst v)) := se_c h fun _ _ => vr_cst.mpr rfl
theorem se_2 {r : R2} {f : A2} (mk : ∀ {t1 t2 : TE}, PE X x t1 → PE X y t2 → PE X e (tOp r t1 t2)) (S : Sim2 (go X c.cls) r f) (ha : SB c X x a) (hb : SB c X y b) : SE c X e (a2 f a b) :=
  pe_weak (mk ha hb) fun σ H Q ⟨G, z, m, P, F, mr, sr, h, k⟩ => ⟨G, z, m, _, F, mr, sr, h, k.mv Stp.refl fun x1 m1 G1 v1 H1 p1 s1 r1 b1 =>
    ⟨G1, z, m1, _, F, r1, sr.step mr.nd s1, p1, k.mv s1 fun x2 m2 G2 v2 H2 p2 s2 r2 b2 => S G2 m2 H2 x1 x2 v1 v2 P Q r2 (b1.step r1.nd s2) b2 p2 fun t m' G' w H' p s r v => k.ok t m' G' w H' p ((s1.trans s2).trans s) r v⟩⟩
theorem sf_2 {r : R2} {f : A2} (mk : ∀ {t1 t2 : TE}, PE X x t1 → PE X y t2 → PE X e (tOp r t1 t2)) (S : Sim2F (go X c.cls) r f) (ha : SB c X x a) (hb : SB c X y b) : SF c X e (a2 f a b) :=
  pe_weak (mk ha hb) fun σ H Q ⟨G, z, m, P, F, mr, sr, h, k⟩ => ⟨G, z, m, _, F, mr, sr, h, ⟨fun x1 m1 G1 v1 H1 p1 s1 r1 b1 =>
    ⟨G1, z, m1, _, F, r1, sr.step mr.nd s1, p1, ⟨fun x2 m2 G2 v2 H2 p2 s2 r2 b2 => S G2 m2 H2 x1 x2 v1 v2 P Q r2 (b1.step r1.nd s2) b2 p2 (fsh_of k (s1.trans s2) (fun p np => free_of' r2 (s1.trans s2) np) r2),
      fun x m' G' H' c d h1 h2 h3 h4 => k.ex x m' G' H' c d h1 (s1.trans h2) h3 h4⟩⟩, k.ex⟩⟩
theorem se_1 {r : V → Hp → VK → Prop} {f : A1} (mk : ∀ {t1 : TE}, PE X x t1 → PE X e (tUn r t1)) (S : Sim1 (go X c.cls) r f) (ha : SB c X x a) : SE c X e (a1 f a) :=
  pe_weak (mk ha) fun σ H Q ⟨G, z, m, P, F, mr, sr, h, k⟩ => ⟨G, z, m, _, F, mr, sr, h, k.mv Stp.refl fun x1 m1 G1 v1 H1 p1 s1 r1 b1 => S G1 m1 H1 x1 v1 P Q r1 b1 p1 fun t m' G' w H' p s r v => k.ok t m' G' w H' p (s1.trans s) r v⟩
theorem se_L {r : List V → Hp → VK → Prop} {f : AL} (mk : ∀ {t1 : TA}, PA X es t1 → PE X e (tCB r t1)) (S : SimL (go X c.cls) r f) (ha : SAB c X es l) : SE c X e (aL f l) :=
  pe_weak (mk ha) fun σ H Q ⟨G, z, m, P, F, mr, sr, h, k⟩ => ⟨G, z, m, _, F, mr, sr, h, k.mv Stp.refl fun x1 m1 G1 v1 H1 p1 s1 r1 b1 => S G1 m1 H1 x1 v1 P Q r1 b1 p1 fun t m' G' w H' p s r v => k.ok t m' G' w H' p (s1.trans s) r v⟩
theorem sf_L {r : List V → Hp → VK → Prop} {f : AL} (mk : ∀ {t1 : TA}, PA X es t1 → PE X e (tCB r t1)) (S : SimLF (go X c.cls) r f) (ha : SAB c X es l) : SF c X e (aL f l) :=
  pe_weak (mk ha) fun σ H Q ⟨G, z, m, P, F, mr, sr, h, k⟩ => ⟨G, z, m, _, F, mr, sr, h, ⟨fun x1 m1 G1 v1 H1 p1 s1 r1 b1 => S G1 m1 H1 x1 v1 P Q r1 b1 p1 (fsh_of k s1 (fun p np => free_of' r1 s1 np) r1), k.ex⟩⟩
theorem sab_nil : SAB c X [] aNil := pa_weak pa_nil fun σ H Q ⟨G, z, m, P, F, mr, sr, h, k⟩ => k.ok [] m G [] H h Stp.refl mr .nil
theorem sab_cons (ha : SB c X x a) (hr : SAB c X es l) (hs : starEach (x :: es) X.env = (false, eval x X.env) :: starEach es X.env := by rfl) : SAB c X (x :: es) (aCons a l) :=
  pa_weak (pa_cons ha hr hs) fun σ H Q ⟨G, z, m, P, F, mr, sr, h, k⟩ => ⟨G, z, m, _, F, mr, sr, h, k.mv Stp.refl fun x1 m1 G1 v1 H1 p1 s1 r1 b1 =>
    ⟨G1, z, m1, _, F, r1, sr.step mr.nd s1, p1, k.mv s1 fun x2 m2 G2 v2 H2 p2 s2 r2 b2 => k.ok _ m2 G2 _ H2 p2 (s1.trans s2) r2 (.cons (b1.step r1.nd s2) b2)⟩⟩
theorem sa_nil : SA c X [] aNil := pa_weak pa_nil fun σ H Q ⟨G, z, m, P, F, mr, sr, h, k⟩ => k.ok [] m G [] H h Stp.refl mr ⟨vrs_nil.mpr rfl, rfl⟩
theorem sa_cons (ha : SE c X x a) (hr : SA c X es l) (hs : starEach (x :: es) X.env = (false, eval x X.env) :: starEach es X.env := by rfl) : SA c X (x :: es) (aCons a l) :=
  pa_weak (pa_cons ha hr hs) fun σ H Q ⟨G, z, m, P, F, mr, sr, h, k⟩ => ⟨G, z, m, _, F, mr, sr, h, k.mv Stp.refl fun x1 m1 G1 v1 H1 p1 s1 r1 b1 =>
    ⟨G1, z, m1, _, F, r1, sr.step mr.nd s1, p1, k.mv s1 fun x2 m2 G2 v2 H2 p2 s2 r2 b2 => k.ok _ m2 G2 _ H2 p2 (s1.trans s2) r2 ⟨vrs_cons.mpr ⟨_, _, rfl, s2.vr b1, b2.1⟩, by rw [List.length_cons, List.length_cons, b2.2]⟩⟩⟩
theorem se_tup {n : Nat} (h : SA c X es l) : SE c X (.Tuple es n pos) (aTup l) :=
  pe_weak (pe_tup h) fun σ H Q ⟨G, z, m, P, F, mr, sr, h, k⟩ => ⟨G, z, m, _, F, mr, sr, h, k.mv Stp.refl fun x1 m1 G1 v1 H1 p1 s1 r1 b1 =>
    ⟨by rw [b1.1.length]; exact p1.1, fun p np => k.ok _ m1 G1 _ _ p1.2 (s1.trans (Stp.new np)) (r1.new np) (vr_tup.mpr ⟨p, v1, rfl, .inl ⟨r1.cold np, .inl upd_same⟩, (Stp.new np).vrs b1.1⟩)⟩⟩
theorem sf_lst (h : SA c X es l) : SF c X (.List es pos) (aLst l) :=
  pe_weak (pe_lst h) fun σ H Q ⟨G, z, m, P, F, mr, sr, h, k⟩ => ⟨G, z, m, _, F, mr, sr, h, ⟨fun x1 m1 G1 v1 H1 p1 s1 r1 b1 =>
    ⟨by rw [b1.1.length]; exact p1.1, fun p np => (fsh_of k s1 (fun p np => free_of' r1 s1 np) r1).1 _ _ p p1.2 b1.1 np⟩, k.ex⟩⟩
/-! tests -/
theorem st_tru (h : SB c X e a) (he : ∀ whole, isTrue e X.env whole = (do let v ← whole; standAt e.pos; holding [v] (truthy v))) : ST c X e (aTru a) :=
  pt_weak (pt_truth h he) fun σ H Q ⟨G, z, m, P, F, mr, sr, h, k⟩ => ⟨G, z, m, _, F, mr, sr, h, k.mv Stp.refl fun x1 m1 G1 v1 H1 p1 s1 r1 b1 => by
    obtain ⟨b, h1, h2⟩ := tru_of r1 b1 p1
    exact ⟨b, h1, k.ok b m1 G1 b H1 h2 s1 r1 rfl⟩⟩
/-- a comparison as a test -/
theorem st_2 {r : R2} {f : A2} (mk : ∀ {t1 t2 : TE}, PE X x t1 → PE X y t2 → PT X e (tTest (tOp r t1 t2))) (S : Sim2 (go X c.cls) r f) (ha : SB c X x a) (hb : SB c X y b) : ST c X e (aTest (a2 f a b)) :=
  pt_weak (mk ha hb) fun σ H Q ⟨G, z, m, P, F, mr, sr, h, k⟩ => ⟨G, z, m, _, F, mr, sr, h, k.mv Stp.refl fun x1 m1 G1 v1 H1 p1 s1 r1 b1 =>
    ⟨G1, z, m1, _, F, r1, sr.step mr.nd s1, p1, k.mv s1 fun x2 m2 G2 v2 H2 p2 s2 r2 b2 => S G2 m2 H2 x1 x2 v1 v2 _ _ r2 (b1.step r1.nd s2) b2 p2 fun t m' G' w H' p s r v => by
      cases t with
      | bl b => exact ⟨b, vr_bl.mp v, k.ok b m' G' b H' p ((s1.trans s2).trans s) r rfl⟩
      | _ => exact p.elim⟩⟩
theorem st_not (h : ST c X e ta) : ST c X (.UnaryOp .Not e pos) (aNotT ta) :=
  pt_weak (pt_not h) fun σ H Q ⟨G, z, m, P, F, mr, sr, h, k⟩ => ⟨G, z, m, _, F, mr, sr, h, k.mv Stp.refl fun x1 m1 G1 v1 H1 p1 s1 r1 b1 => by subst b1; exact k.ok _ m1 G1 _ H1 p1 s1 r1 rfl⟩
theorem sw_and1 (h : ST c X e ta) : SW c X (.BoolOp .And [e] pos) ta := pw_and1 h
theorem sw_or1 (h : ST c X e ta) : SW c X (.BoolOp .Or [e] pos) ta := pw_or1 h
theorem sw_and (h : ST c X e ta) (h2 : SW c X (.BoolOp .And (x :: rest) pos) tb) : SW c X (.BoolOp .And (e :: x :: rest) pos) (aAndT ta tb) :=
  pw_weak (pw_and h h2) fun σ H Q ⟨G, z, m, P, F, mr, sr, h, k⟩ => ⟨G, z, m, _, F, mr, sr, h, k.mv Stp.refl fun x1 m1 G1 v1 H1 p1 s1 r1 b1 => by
    subst b1
    cases x1 with
    | true => exact ⟨G1, z, m1, P, F, r1, sr.step mr.nd s1, p1, k.mv s1 fun x2 m2 G2 v2 H2 p2 s2 r2 b2 => k.ok x2 m2 G2 v2 H2 p2 (s1.trans s2) r2 b2⟩
    | false => exact k.ok _ m1 G1 _ H1 p1 s1 r1 rfl⟩
theorem sw_or (h : ST c X e ta) (h2 : SW c X (.BoolOp .Or (x :: rest) pos) tb) : SW c X (.BoolOp .Or (e :: x :: rest) pos) (aOrT ta tb) :=
  pw_weak (pw_or h h2) fun σ H Q ⟨G, z, m, P, F, mr, sr, h, k⟩ => ⟨G, z, m, _, F, mr, sr, h, k.mv Stp.refl fun x1 m1 G1 v1 H1 p1 s1 r1 b1 => by
    subst b1
    cases x1 with
    | true => exact k.ok _ m1 G1 _ H1 p1 s1 r1 rfl
    | false => exact ⟨G1, z, m1, P, F, r1, sr.step mr.nd s1, p1, k.mv s1 fun x2 m2 G2 v2 H2 p2 s2 r2 b2 => k.ok x2 m2 G2 v2 H2 p2 (s1.trans s2) r2 b2⟩⟩
theorem SW.st (h : SW c X e ta) : ST c X e ta := PW.pt h
/-! and, or, not, if as values -/
theorem se_one {op : BoolOp} (h : SE c X e a) : SE c X (.BoolOp op [e] pos) a := pe_one h
theorem se_and (h : SE c X e a) (h2 : SE c X (.BoolOp .And (x :: rest) pos) b) : SE c X (.BoolOp .And (e :: x :: rest) pos) (aAnd a b) :=
  pe_weak (pe_andT h h2) fun σ H Q ⟨G, z, m, P, F, mr, sr, h, k⟩ => ⟨G, z, m, _, F, mr, sr, h, k.mv Stp.refl fun x1 m1 G1 v1 H1 p1 s1 r1 b1 => by
    obtain ⟨b, h1, h2⟩ := tru_of r1 (.inl b1) p1
    refine ⟨b, h1, ?_⟩
    cases b with
    | true => exact ⟨G1, z, m1, P, F, r1, sr.step mr.nd s1, h2, k.mv s1 fun x2 m2 G2 v2 H2 p2 s2 r2 b2 => k.ok x2 m2 G2 v2 H2 p2 (s1.trans s2) r2 b2⟩
    | false => exact k.ok _ m1 G1 _ H1 h2 s1 r1 b1⟩
theorem se_or (h : SE c X e a) (h2 : SE c X (.BoolOp .Or (x :: rest) pos) b) : SE c X (.BoolOp .Or (e :: x :: rest) pos) (aOr a b) :=
  pe_weak (pe_orT h h2) fun σ H Q ⟨G, z, m, P, F, mr, sr, h, k⟩ => ⟨G, z, m, _, F, mr, sr, h, k.mv Stp.refl fun x1 m1 G1 v1 H1 p1 s1 r1 b1 => by
    obtain ⟨b, h1, h2⟩ := tru_of r1 (.inl b1) p1
    refine ⟨b, h1, ?_⟩
    cases b with
    | true => exact k.ok _ m1 G1 _ H1 h2 s1 r1 b1
    | false => exact ⟨G1, z, m1, P, F, r1, sr.step mr.nd s1, h2, k.mv s1 fun x2 m2 G2 v2 H2 p2 s2 r2 b2 => k.ok x2 m2 G2 v2 H2 p2 (s1.trans s2) r2 b2⟩⟩
theorem se_not (h : SB c X e a) : SE c X (.UnaryOp .Not e pos) (aNot a) :=
  pe_weak (pe_notT h) fun σ H Q ⟨G, z, m, P, F, mr, sr, h, k⟩ => ⟨G, z, m, _, F, mr, sr, h, k.mv Stp.refl fun x1 m1 G1 v1 H1 p1 s1 r1 b1 => by
    obtain ⟨b, h1, h2⟩ := tru_of r1 b1 p1
    exact ⟨b, h1, k.ok _ m1 G1 _ H1 h2 s1 r1 (vr_bl.mpr rfl)⟩⟩
theorem se_if (h : ST c X e ta) (h1 : SE c X x a) (h2 : SE c X y b) : SE c X (.IfExp e x y pos) (aIf ta a b) :=
  pe_weak (pe_ifExp h h1 h2) fun σ H Q ⟨G, z, m, P, F, mr, sr, h, k⟩ => ⟨G, z, m, _, F, mr, sr, h, k.mv Stp.refl fun x1 m1 G1 v1 H1 p1 s1 r1 b1 => by
    subst b1
    have kk : Cont (VR (go X c.cls)) (go X c.cls) c.W G1 H1 σ P F Q := k.mv s1 fun x2 m2 G2 v2 H2 p2 s2 r2 b2 => k.ok x2 m2 G2 v2 H2 p2 (s1.trans s2) r2 b2
    cases x1 with
    | true => exact ⟨G1, z, m1, P, F, r1, sr.step mr.nd s1, p1, kk⟩
    | false => exact ⟨G1, z, m1, P, F, r1, sr.step mr.nd s1, p1, kk⟩⟩
theorem se_chain {r r' : R2} {f g : A2} (mk : ∀ {t1 t2 t3 : TE}, PE X x t1 → PE X y t2 → PE X w t3 → PE X e (tChain r r' t1 t2 t3)) (S : Sim2 (go X c.cls) r f) (S' : Sim2 (go X c.cls) r' g) (ha : SB c X x a) (hb : SB c X y b) (hd : SB c X w d) : SE c X e (aChain f g a b d) :=
  pe_weak (mk ha hb hd) fun σ H Q ⟨G, z, m, P, F, mr, sr, h, k⟩ => ⟨G, z, m, _, F, mr, sr, h, k.mv Stp.refl fun x1 m1 G1 v1 H1 p1 s1 r1 b1 =>
    ⟨G1, z, m1, _, F, r1, sr.step mr.nd s1, p1, k.mv s1 fun x2 m2 G2 v2 H2 p2 s2 r2 b2 => S G2 m2 H2 x1 x2 v1 v2 _ _ r2 (b1.step r1.nd s2) b2 p2 fun t m3 G3 w3 H3 p3 s3 r3 v3 => by
      have s123 := (s1.trans s2).trans s3
      cases t with
      | bl b =>
        refine ⟨b, vr_bl.mp v3, ?_⟩
        cases b with
        | true => exact ⟨G3, z, m3, _, F, r3, sr.step mr.nd s123, p3, k.mv s123 fun x4 m4 G4 v4 H4 p4 s4 r4 b4 => S' G4 m4 H4 x2 x4 v2 v4 P Q r4 ((b2.step r2.nd s3).step r3.nd s4) b4 p4 fun t m' G' w H' p s r v => k.ok t m' G' w H' p ((s123.trans s4).trans s) r v⟩
        | false => exact k.ok _ m3 G3 _ H3 p3 s123 r3 (vr_bl.mpr rfl)
      | _ => exact p3.elim⟩⟩
theorem st_chain {r r' : R2} {f g : A2} (mk : ∀ {t1 t2 t3 : TE}, PE X x t1 → PE X y t2 → PE X w t3 → PT X e (tTest (tChain r r' t1 t2 t3))) (S : Sim2 (go X c.cls) r f) (S' : Sim2 (go X c.cls) r' g) (ha : SB c X x a) (hb : SB c X y b) (hd : SB c X w d) : ST c X e (aTest (aChain f g a b d)) :=
  pt_weak (mk ha hb hd) fun σ H Q ⟨G, z, m, P, F, mr, sr, h, k⟩ => ⟨G, z, m, _, F, mr, sr, h, k.mv Stp.refl fun x1 m1 G1 v1 H1 p1 s1 r1 b1 =>
    ⟨G1, z, m1, _, F, r1, sr.step mr.nd s1, p1, k.mv s1 fun x2 m2 G2 v2 H2 p2 s2 r2 b2 => S G2 m2 H2 x1 x2 v1 v2 _ _ r2 (b1.step r1.nd s2) b2 p2 fun t m3 G3 w3 H3 p3 s3 r3 v3 => by
      have s123 := (s1.trans s2).trans s3
      cases t with
      | bl b =>
        refine ⟨b, vr_bl.mp v3, ?_⟩
        cases b with
        | true => exact ⟨G3, z, m3, _, F, r3, sr.step mr.nd s123, p3, k.mv s123 fun x4 m4 G4 v4 H4 p4 s4 r4 b4 => S' G4 m4 H4 x2 x4 v2 v4 _ _ r4 ((b2.step r2.nd s3).step r3.nd s4) b4 p4 fun t m' G' w H' p s r v => by
            cases t with
            | bl b => exact ⟨b, vr_bl.mp v, k.ok b m' G' b H' p ((s123.trans s4).trans s) r rfl⟩
            | _ => exact p.elim⟩
        | false => exact ⟨false, rfl, k.ok _ m3 G3 _ H3 p3 s123 r3 rfl⟩
      | _ => exact p3.elim⟩⟩
end
end AM
set_option maxHeartbeats 4000000
namespace AM
open PySem PySem.Spec PyProof.Rows L2 Eb
/-! ## statements -/
abbrev AGt := T → SS → Mem → (SS → Mem → Prop) → (SS → FX) → Prop
abbrev AGs := List T → SS → Mem → (SS → Mem → Prop) → (SS → FX) → Prop
structure ContG (Γ : Gm) (W : WX) (G : Gh) (H : Hp) (P : SS → Mem → Prop) (F : SS → FX) (Q : L2.St → Hp → Prop) : Prop where
  ok : ∀ z m' G' σ H', P z m' → SStp G H G' H' → MR Γ G' m' H' → SR Γ G' H' z σ → Q σ H'
  ex : ∀ z x m' G' σ H' c d, F z x m' → SStp G H G' H' → MR Γ G' m' H' → SR Γ G' H' z σ → XR Γ G' H' x c d → W c d σ H'
def gOf (Γ : Gm) (W : WX) (g : AGt) : TG := fun v σ H Q => ∃ G z m t P F, MR Γ G m H ∧ SR Γ G H z σ ∧ VR Γ G H t v ∧ g t z m P F ∧ ContG Γ W G H P F Q
def gsOf (Γ : Gm) (W : WX) (g : AGs) : TGs := fun v σ H Q => ∃ G z m t P F, MR Γ G m H ∧ SR Γ G H z σ ∧ VRs Γ G H t v ∧ g t z m P F ∧ ContG Γ W G H P F Q
def SG (c : Cl) (X : Cx) (e : Expr) (g : AGt) : Prop := PG X e (gOf (go X c.cls) c.W g)
def SGs (c : Cl) (X : Cx) (e : List Expr) (g : AGs) : Prop := PGs X e (gsOf (go X c.cls) c.W g)
theorem pg_weak {X : Cx} {e : Expr} {t t' : TG} (h : PG X e t) (w : ∀ v σ H Q, t' v σ H Q → t v σ H Q) : PG X e t' := ⟨fun pins s σ H v u Q I r hq => h.run pins s σ H v u Q I r (w v σ H Q hq)⟩
theorem pgs_weak {X : Cx} {e : List Expr} {t t' : TGs} (h : PGs X e t) (w : ∀ v σ H Q, t' v σ H Q → t v σ H Q) : PGs X e t' := ⟨fun pins s σ H v u Q I r hq => h.run pins s σ H v u Q I r (w v σ H Q hq)⟩
@[simp] def gN (i : Nat) : AGt := fun t z m P _ => P (z.set i (some (.v t))) m
@[simp] def gsNil : AGs := fun ts z m P _ => ts = [] ∧ P z m
@[simp] def gsCons (g : AGt) (r : AGs) : AGs := fun ts z m P F => match ts with | t :: ts => g t z m (fun z1 m1 => r ts z1 m1 P F) F | [] => False
@[simp] def gT (n : Nat) (r : AGs) : AGt := fun t z m P F => match t with | .tup ts => ts.length = n ∧ r ts z m P F | _ => False
@[simp] def sNil : AS := fun D z m => D.nx z m
@[simp] def sSeq (a b : AS) : AS := fun D z m => a { D with nx := b D } z m
@[simp] def sDrop (a : AE) : AS := fun D z m => a z m (fun _ m1 => D.nx z m1) (D.ex z)
@[simp] def sRet (a : AE) : AS := fun D z m => a z m D.rt (D.ex z)
@[simp] def sRetN : AS := fun D _ m => D.rt .non m
@[simp] def sBrk : AS := fun D z m => D.bk z m
@[simp] def sCnt : AS := fun D z m => D.ct z m
@[simp] def sIf (t : AT) (a b : AS) : AS := fun D z m => t z m (fun k m1 => if k = true then a D z m1 else b D z m1) (D.ex z)
@[simp] def sAsg (a : AE) (g : AGt) : AS := fun D z m => a z m (fun t m1 => g t z m1 D.nx D.ex) (D.ex z)
@[simp] def sSet (i : Nat) (a : AE) : AS := fun D z m => a z m (fun t m1 => D.nx (z.set i (some (.v t))) m1) (D.ex z)
@[simp] def sPar (i j : Nat) (a : AA) : AS := fun D z m => a z m (fun ts m1 => match ts with | [t, u] => D.nx ((z.set i (some (.v t))).set j (some (.v u))) m1 | _ => False) (D.ex z)
@[simp] def sAug (i : Nat) (f : A2) (a : AE) : AS := fun D z m => match z[i]? with | some (some (.v x)) => a z m (fun y m1 => f x y m1 fun t m2 => D.nx (z.set i (some (.v t))) m2) (D.ex z) | _ => False
@[simp] def sNever : AS := fun _ _ _ => False
section
variable {Γ : Gm} {W : WX} {G G' G2 : Gh} {H H' H2 : Hp} {v : V} {t : T} {m : Mem} {z : SS} {σ : L2.St}
theorem SR.set (sr : SR Γ G H z σ) (h : VR Γ G H t v) (i : Nat) : SR Γ G H (z.set i (some (.v t))) (σ.set i (some v)) := by
  refine ⟨by simp [sr.len], fun j u e => ?_, fun j u e => ?_⟩
  · by_cases c : i = j
    · subst c
      have hi : i < z.length := by
        have := (List.getElem?_eq_some_iff.mp e).1
        simpa using this
      rw [List.getElem?_set_self hi] at e
      cases e
      exact ⟨v, List.getElem?_set_self (by rw [← sr.len]; exact hi), h⟩
    · rw [List.getElem?_set_ne c] at e ⊢
      exact sr.val j u e
  · by_cases c : i = j
    · subst c
      have hi : i < z.length := by
        have := (List.getElem?_eq_some_iff.mp e).1
        simpa using this
      rw [List.getElem?_set_self hi] at e
      cases e
    · rw [List.getElem?_set_ne c] at e ⊢
      exact sr.own j u e
theorem SR.sstep {G' : Gh} {H' : Hp} (sr : SR Γ G H z σ) (g : Go G H G' H') (h : ∀ i a, (i, a) ∈ G.ow → (i, a) ∈ G'.ow ∧ ∀ o, H a = some o → H' a = some o) : SR Γ G' H' z σ :=
  ⟨sr.len, fun i t e => let ⟨v, h1, h2⟩ := sr.val i t e; ⟨v, h1, h2.go g⟩, fun i t e => let ⟨a, h1, h2, h3⟩ := sr.own i t e; ⟨a, (h i a h1).1, h2, h3.go g (h i a h1).2⟩⟩
theorem ContG.mk' {D : EA} {E : Ends} {P : SS → Mem → Prop} {Q : L2.St → Hp → Prop} (k : ContS Γ W G H D E) (s : SStp G H G' H') (n : G.all.Nodup) (n' : G'.all.Nodup)
    (ok : ∀ z m' G2 σ H2, P z m' → SStp G H G2 H2 → MR Γ G2 m' H2 → SR Γ G2 H2 z σ → Q σ H2) : ContG Γ W G' H' P D.ex Q :=
  ⟨fun z m' G2 σ H2 h1 h2 h3 h4 => ok z m' G2 σ H2 h1 (s.trans h2 n n') h3 h4, fun z x m' G2 σ H2 c d h1 h2 h3 h4 h5 => k.ex z x m' G2 σ H2 c d h1 (s.trans h2 n n') h3 h4 h5⟩
end
section
variable {c : Cl} {X : Cx} {e x y w : Expr} {es : List Expr} {a b d : AE} {ta tb : AT} {l : AA} {g : AGt} {gs : AGs} {p q : AS} {pos : Pos} {st : Stmt} {sts sts2 : List Stmt}
theorem sg_name {i : Nat} (h : PG X e (gName i)) : SG c X e (gN i) := pg_weak h fun v σ H Q ⟨G, z, m, t, P, F, mr, sr, vr, h, k⟩ => k.ok _ m G _ H h SStp.refl mr (sr.set vr i)
theorem sgs_nil : SGs c X [] gsNil := pgs_weak pgs_nil fun v σ H Q ⟨G, z, m, t, P, F, mr, sr, vr, h, k⟩ => by
  obtain ⟨rfl, h⟩ := h
  exact ⟨vrs_nil.mp vr, k.ok z m G σ H h SStp.refl mr sr⟩
theorem sgs_cons (h1 : SG c X e g) (h2 : SGs c X es gs) (hs : (assignEach (e :: es) X.env).map (·.2) = assign e X.env :: (assignEach es X.env).map (·.2) := by rfl) : SGs c X (e :: es) (gsCons g gs) :=
  pgs_weak (pgs_cons h1 h2 hs) fun v σ H Q ⟨G, z, m, t, P, F, mr, sr, vr, h, k⟩ => by
    cases t with
    | nil => exact h.elim
    | cons t ts =>
      obtain ⟨u, r, e, v1, v2⟩ := vrs_cons.mp vr
      refine ⟨u, r, e, G, z, m, t, _, F, mr, sr, v1, h, ⟨fun z1 m1 G1 σ1 H1 p1 s1 r1 sr1 => ⟨G1, z1, m1, ts, P, F, r1, sr1, v2.go s1.go, p1, ⟨?_, ?_⟩⟩, k.ex⟩⟩
      · exact fun z m' G2 σ H2 h1 h2 h3 h4 => k.ok z m' G2 σ H2 h1 (s1.trans h2 mr.nd r1.nd) h3 h4
      · exact fun z x m' G2 σ H2 c d h1 h2 h3 h4 h5 => k.ex z x m' G2 σ H2 c d h1 (s1.trans h2 mr.nd r1.nd) h3 h4 h5
theorem sg_tup {n kk : Nat} (hc : X.calm = true) (h : SGs c X es gs) (hn : (assignEach es X.env).length = n := by rfl) (hst : (assignEach es X.env).findIdx? (·.1) = none := by rfl) : SG c X (.Tuple es kk pos) (gT n gs) :=
  pg_weak (pg_tup hc h hn hst) fun v σ H Q ⟨G, z, m, t, P, F, mr, sr, vr, h, k⟩ => by
    cases t with
    | tup ts =>
      obtain ⟨p, us, e1, e2, e3⟩ := rdT (.inl vr) (ts := ts) rfl
      exact ⟨p, us, e1, e2, by rw [e3.length]; exact h.1, G, z, m, ts, P, F, mr, sr, e3, h.2, k⟩
    | _ => exact h.elim
theorem s2_nil : S2 c X [] sNil := pss_weak pss_nil fun E σ H ⟨G, z, m, D, mr, sr, h, k⟩ => k.nx z m G σ H h SStp.refl mr sr
theorem s2_one (h : S1 c X st p) : S2 c X [st] p := pss_one h
theorem s2_cons (h1 : S1 c X st p) (h2 : S2 c X sts q) : S2 c X (st :: sts) (sSeq p q) := pss_weak (pss_cons h1 h2) fun E σ H ⟨G, z, m, D, mr, sr, h, k⟩ =>
  ⟨G, z, m, _, mr, sr, h, ⟨fun z1 m1 G1 σ1 H1 p1 s1 r1 sr1 => ⟨G1, z1, m1, D, r1, sr1, p1, k.step s1 mr.nd r1.nd⟩, k.rt, k.bk, k.ct, k.ex⟩⟩
theorem s_drop (h : SB c X e a) (hs : swapsWith e none pos.line X.env = pure false := by rfl) : S1 c X (.Expr e pos) (sDrop a) := ps_weak (ps_expr h hs) fun E σ H ⟨G, z, m, D, mr, sr, h, k⟩ =>
  ⟨G, z, m, _, _, mr, sr, h, k.ex' mr.nd sr fun t m1 G1 v H1 p1 s1 r1 _ => k.nx z m1 G1 σ H1 p1 s1.ss r1 (sr.step mr.nd s1)⟩
theorem s_doc {w : Str} {j pos' : Pos} {jj} : S1 c X (.Expr (.Constant (.str w) jj pos) pos') sNil := ps_weak ps_doc fun E σ H ⟨G, z, m, D, mr, sr, h, k⟩ => k.nx z m G σ H h SStp.refl mr sr
theorem s_ret (h : SE c X e a) : S1 c X (.Return (some e) pos) (sRet a) := ps_weak (ps_ret h) fun E σ H ⟨G, z, m, D, mr, sr, h, k⟩ =>
  ⟨G, z, m, _, _, mr, sr, h, k.ex' mr.nd sr fun t m1 G1 v H1 p1 s1 r1 vr => k.rt t m1 G1 v H1 p1 s1.ss r1 vr⟩
theorem s_retN : S1 c X (.Return none pos) sRetN := ps_weak ps_retN fun E σ H ⟨G, z, m, D, mr, sr, h, k⟩ => k.rt .non m G .non H h SStp.refl mr (vr_non.mpr rfl)
theorem s_pass : S1 c X (.Pass pos) sNil := ps_weak ps_pass fun E σ H ⟨G, z, m, D, mr, sr, h, k⟩ => k.nx z m G σ H h SStp.refl mr sr
theorem s_brk : S1 c X (.Break pos) sBrk := ps_weak ps_break fun E σ H ⟨G, z, m, D, mr, sr, h, k⟩ => k.bk z m G σ H h SStp.refl mr sr
theorem s_cnt : S1 c X (.Continue pos) sCnt := ps_weak ps_continue fun E σ H ⟨G, z, m, D, mr, sr, h, k⟩ => k.ct z m G σ H h SStp.refl mr sr
theorem s_never : S1 c X st sNever := ⟨fun pins s σ H D I h => by obtain ⟨_, _, _, _, _, _, h, _⟩ := h; exact h.elim⟩
theorem s_if (ht : ST c X e ta) (h1 : S2 c X sts p) (h2 : S2 c X sts2 q) : S1 c X (.If e sts sts2 pos) (sIf ta p q) := ps_weak (ps_if ht h1 h2) fun E σ H ⟨G, z, m, D, mr, sr, h, k⟩ =>
  ⟨G, z, m, _, _, mr, sr, h, k.ex' mr.nd sr fun t m1 G1 v H1 p1 s1 r1 b1 => by
    subst b1
    have kk := k.step s1.ss mr.nd r1.nd
    have sr1 := sr.step mr.nd s1
    cases t with
    | true => exact ⟨G1, z, m1, D, r1, sr1, p1, kk⟩
    | false => exact ⟨G1, z, m1, D, r1, sr1, p1, kk⟩⟩
/-- target = value -/
theorem s_asg {tg : Expr} (mk : ∀ {te : TE} {g : TG}, PE X e te → PG X tg g → PS X st (tAsg te g)) (he : SE c X e a) (hg : SG c X tg g) : S1 c X st (sAsg a g) := ps_weak (mk he hg) fun E σ H ⟨G, z, m, D, mr, sr, h, k⟩ =>
  ⟨G, z, m, _, _, mr, sr, h, k.ex' mr.nd sr fun t m1 G1 v H1 p1 s1 r1 vr => ⟨G1, z, m1, t, _, _, r1, sr.step mr.nd s1, vr, p1, ContG.mk' k s1.ss mr.nd r1.nd k.nx⟩⟩
theorem s_set {i : Nat} (mk : ∀ {te : TE}, PE X e te → PS X st (tAsg te (gName i))) (he : SE c X e a) : S1 c X st (sSet i a) := ps_weak (mk he) fun E σ H ⟨G, z, m, D, mr, sr, h, k⟩ =>
  ⟨G, z, m, _, _, mr, sr, h, k.ex' mr.nd sr fun t m1 G1 v H1 p1 s1 r1 vr => k.nx _ m1 G1 _ H1 p1 s1.ss r1 ((sr.step mr.nd s1).set vr i)⟩
theorem s_par {i j : Nat} (mk : ∀ {t : TA}, PA X es t → PS X st (tPar i j t)) (he : SA c X es l) : S1 c X st (sPar i j l) := ps_weak (mk he) fun E σ H ⟨G, z, m, D, mr, sr, h, k⟩ =>
  ⟨G, z, m, _, _, mr, sr, h, k.ex' mr.nd sr fun ts m1 G1 vs H1 p1 s1 r1 vr => by
    match ts, p1, vr with
    | [t, u], p1, vr =>
      obtain ⟨v1, r, rfl, h1, h2⟩ := vrs_cons.mp vr.1
      obtain ⟨v2, r, rfl, h3, h4⟩ := vrs_cons.mp h2
      cases vrs_nil.mp h4
      exact ⟨v1, v2, rfl, k.nx _ m1 G1 _ H1 p1 s1.ss r1 (((sr.step mr.nd s1).set h1 i).set h3 j)⟩⟩
/-- an owned slot: a fresh value stored in it -/
@[simp] def sOwn (i : Nat) (a : AE) : AS := fun D z m => a z m (fun t m1 => D.nx (z.set i (some (.o t))) m1) (D.ex z)
theorem s_own' {i : Nat} (he : PS X st (tAsg (fOf (go X c.cls) c.W a) (gName i))) : S1 c X st (sOwn i a) := ps_weak he fun E σ H ⟨G, z, m, D, mr, sr, h, k⟩ =>
  ⟨G, z, m, _, _, mr, sr, h, ⟨fun t m1 G1 p H1 p1 s1 np r1 rt => by
    have eu : G1.up = p :: G.up := s1.up
    have eo : G1.ow = G.ow := s1.ow
    let G2 : Gh := ⟨G1.rho, (i, p) :: G1.ow, G.up⟩
    have hh : ∀ a, G2.hot a ↔ G1.hot a := fun a => by
      rw [hot_iff, hot_iff, eu]
      show a ∈ G1.rho ∨ a ∈ p :: G1.ow.map (·.2) ∨ a ∈ G.up ↔ _
      simp only [List.mem_cons]
      constructor
      · rintro (h | (h | h) | h)
        · exact .inl h
        · exact .inr (.inr (.inl h))
        · exact .inr (.inl h)
        · exact .inr (.inr (.inr h))
      · rintro (h | h | h | h)
        · exact .inl h
        · exact .inr (.inl (.inr h))
        · exact .inr (.inl (.inl h))
        · exact .inr (.inr h)
    have g12 : Go G1 H1 G2 H1 := Go.less (Γ := go X c.cls) rfl fun a z => (hh a).mp z
    have mr2 : MR (go X c.cls) G2 m1 H1 := ⟨r1.len, fun n cl a e1 e2 => (r1.cell n cl a e1 e2).go' g12, by
      have n := r1.nd
      unfold Gh.all at n ⊢
      rw [eu] at n
      show (G1.rho ++ p :: G1.ow.map (·.2) ++ G.up).Nodup
      refine (List.Perm.nodup_iff ?_).mp n
      simp only [List.append_assoc, List.cons_append]
      exact List.Perm.append_left _ List.perm_middle, fun a z => r1.live a ((hh a).mp z)⟩
    have ss : SStp G H G2 H1 := ⟨rfl, s1.pre, fun a o n1 n2 h => s1.fr a o n1 h, fun a z => by
      have z := (hh a).mp z
      rw [hot_iff] at z ⊢
      rw [eu, eo] at z
      rcases z with z | z | z
      · exact (s1.nw a z).imp .inl id
      · exact .inl (.inr (.inl z))
      · rcases List.mem_cons.mp z with z | z
        · exact .inr (by rw [z]; exact np)
        · exact .inl (.inr (.inr z))⟩
    have own_ne : ∀ j q, (j, q) ∈ G.ow → ∀ o, H q = some o → H1 q = some o := fun j q hq o e => s1.fr q o (fun y => ((nd3 mr.nd).1 y).1 (own_mem hq)) e
    have sr2 : SR (go X c.cls) G2 H1 z σ := sr.sstep ss.go fun j q hq => ⟨List.mem_cons_of_mem _ (by rw [eo]; exact hq), own_ne j q hq⟩
    refine k.nx _ m1 G2 _ H1 p1 ss mr2 ⟨by simp [sr.len], fun j u e => ?_, fun j u e => ?_⟩
    · by_cases hc : i = j
      · subst hc
        have hi : i < z.length := by
          have := (List.getElem?_eq_some_iff.mp e).1
          simpa using this
        rw [List.getElem?_set_self hi] at e
        cases e
      · rw [List.getElem?_set_ne hc] at e ⊢
        exact sr2.val j u e
    · by_cases hc : i = j
      · subst hc
        have hi : i < z.length := by
          have := (List.getElem?_eq_some_iff.mp e).1
          simpa using this
        rw [List.getElem?_set_self hi] at e
        cases e
        refine ⟨p, List.mem_cons_self, List.getElem?_set_self (by rw [← sr.len]; exact hi), ?_⟩
        cases t with
        | lst ts => obtain ⟨us, h1, h2⟩ := rt; exact ⟨us, h1, h2.go g12⟩
        | dct ts => obtain ⟨us, h1, h2⟩ := rt; exact ⟨us, h1, h2.go g12⟩
        | _ => exact rt.elim
      · rw [List.getElem?_set_ne hc] at e ⊢
        exact sr2.own j u e, fun x m' G' H' cc d h1 h2 h3 h4 => k.ex z x m' G' σ H' cc d h1 h2.ss h3 (sr.step mr.nd h2) h4⟩⟩
theorem s_own {i : Nat} (mk : ∀ {te : TE}, PE X e te → PS X st (tAsg te (gName i))) (he : SF c X e a) : S1 c X st (sOwn i a) := s_own' (mk he)
theorem s_setF {i : Nat} (he : PS X st (tAsg (fOf (go X c.cls) c.W a) (gName i))) : S1 c X st (sSet i a) := ps_weak he fun E σ H ⟨G, z, m, D, mr, sr, h, k⟩ => f_of_r
  ⟨G, z, m, _, _, mr, sr, h, k.ex' mr.nd sr fun t m1 G1 v H1 p1 s1 r1 vr => k.nx _ m1 G1 _ H1 p1 s1.ss r1 ((sr.step mr.nd s1).set vr i)⟩
/-- a slot is owned no more -/
@[simp] def sFrz (i : Nat) (p : AS) : AS := fun D z m => match z[i]? with | some (some (.o t)) => p D (z.set i (some (.v t))) m | some (some (.v _)) => p D z m | _ => False
theorem SR.frz {Γ : Gm} {G : Gh} {H : Hp} {m : Mem} {z : SS} {σ : L2.St} {i : Nat} {t : T} (mr : MR Γ G m H) (sr : SR Γ G H z σ) (e : z[i]? = some (some (.o t))) :
    ∃ G', SStp G H G' H ∧ MR Γ G' m H ∧ SR Γ G' H (z.set i (some (.v t))) σ := by
  obtain ⟨a, h1, h2, h3⟩ := sr.own i t e
  let G' : Gh := ⟨G.rho, G.ow.filter fun x => decide (x.2 ≠ a), G.up⟩
  have hh : ∀ b, G'.hot b → G.hot b ∧ b ≠ a := fun b z => by
    rw [hot_iff] at z ⊢
    have am := own_mem h1
    rcases z with z | z | z
    · exact ⟨.inl z, fun y => ((nd3 mr.nd).1 (y ▸ z)).1 am⟩
    · obtain ⟨w, hw, rfl⟩ := List.mem_map.mp z
      obtain ⟨hw1, hw2⟩ := List.mem_filter.mp hw
      exact ⟨.inr (.inl (List.mem_map.mpr ⟨w, hw1, rfl⟩)), of_decide_eq_true hw2⟩
    · exact ⟨.inr (.inr z), fun y => (nd3 mr.nd).2 am (y ▸ z)⟩
  have g : Go G H G' H := Go.less (Γ := Γ) rfl fun b z => (hh b z).1
  have ow : ∀ j b, (j, b) ∈ G.ow → b ≠ a → (j, b) ∈ G'.ow := fun j b hb n => List.mem_filter.mpr ⟨hb, decide_eq_true n⟩
  refine ⟨G', ⟨rfl, List.prefix_refl _, fun _ _ _ _ h => h, fun b z => .inl (hh b z).1⟩, ⟨mr.len, fun n cl b e1 e2 => (mr.cell n cl b e1 e2).go' g, ?_, fun b z => mr.live b (hh b z).1⟩, ⟨by simp [sr.len], fun j u e' => ?_, fun j u e' => ?_⟩⟩
  · have n := mr.nd
    unfold Gh.all at n ⊢
    refine n.sublist ?_
    exact List.Sublist.append_right (List.Sublist.append_left (List.Sublist.map _ List.filter_sublist) _) _
  · by_cases hc : i = j
    · subst hc
      have hi : i < z.length := by
        have := (List.getElem?_eq_some_iff.mp e').1
        simpa using this
      rw [List.getElem?_set_self hi] at e'
      cases e'
      refine ⟨_, h2, ?_⟩
      have na : ¬ G'.hot a := fun z => (hh a z).2 rfl
      cases t with
      | lst ts => obtain ⟨us, q1, q2⟩ := h3; exact vr_lst.mpr ⟨a, us, rfl, na, q1, q2.go g⟩
      | dct ts => obtain ⟨us, q1, q2⟩ := h3; exact vr_dct.mpr ⟨a, us, rfl, na, .inl q1, q2.go g⟩
      | _ => exact h3.elim
    · rw [List.getElem?_set_ne hc] at e'
      obtain ⟨v, q1, q2⟩ := sr.val j u e'
      exact ⟨v, q1, q2.go g⟩
  · by_cases hc : i = j
    · subst hc
      have hi : i < z.length := by
        have := (List.getElem?_eq_some_iff.mp e').1
        simpa using this
      rw [List.getElem?_set_self hi] at e'
      cases e'
    · rw [List.getElem?_set_ne hc] at e'
      obtain ⟨b, q1, q2, q3⟩ := sr.own j u e'
      have ne : b ≠ a := fun y => by
        subst y
        have n := mr.nd
        unfold Gh.all at n
        rw [List.nodup_append] at n
        have n1 := n.1
        rw [List.nodup_append] at n1
        have n2 := n1.2.1
        have : (i, b) = (j, b) := by
          have key : ∀ l : List (Nat × Addr), (l.map (·.2)).Nodup → ∀ x ∈ l, ∀ y ∈ l, x.2 = y.2 → x = y := by
            intro l
            induction l with
            | nil => intro _ x hx; cases hx
            | cons w r ih =>
              intro hn x hx y hy e
              rw [List.map_cons, List.nodup_cons] at hn
              rcases List.mem_cons.mp hx with hx | hx
              · rcases List.mem_cons.mp hy with hy | hy
                · rw [hx, hy]
                · exact (hn.1 (List.mem_map.mpr ⟨y, hy, by rw [← e, hx]⟩)).elim
              · rcases List.mem_cons.mp hy with hy | hy
                · exact (hn.1 (List.mem_map.mpr ⟨x, hx, by rw [e, hy]⟩)).elim
                · exact ih hn.2 x hx y hy e
          exact key G.ow n2 _ h1 _ q1 rfl
        exact hc (congrArg Prod.fst this)
      exact ⟨b, ow j b q1 ne, q2, q3.go g fun o h => h⟩
theorem s_frz {i : Nat} (h : S1 c X st p) : S1 c X st (sFrz i p) := ps_weak h fun E σ H ⟨G, z, m, D, mr, sr, h, k⟩ => by
  simp only [sFrz] at h
  split at h
  · rename_i t hz
    obtain ⟨G', s, mr', sr'⟩ := SR.frz mr sr hz
    exact ⟨G', _, m, D, mr', sr', h, k.step s mr.nd mr'.nd⟩
  · exact ⟨G, z, m, D, mr, sr, h, k⟩
  · exact h.elim
end
/-! ## loops -/
@[simp] def sWhileN (t : AT) (p : AS) : Nat → AS
  | 0 => fun _ _ _ => False
  | n + 1 => fun D z m => t z m (fun k m1 => if k = true then p { D with nx := sWhileN t p n D, ct := sWhileN t p n D, bk := D.nx } z m1 else D.nx z m1) (D.ex z)
def sWhile (t : AT) (p : AS) : AS := fun D z m => ∃ n, sWhileN t p n D z m
/-- what is walked: the trees, and what must stay true of the cells -/
abbrev AI := SS → Mem → (List T → (Mem → Prop) → Mem → Prop) → FX → Prop
/-- all but the cells stays -/
structure Fro (G : Gh) (H : Hp) (G' : Gh) (H' : Hp) : Prop where
  pre : G.rho <+: G'.rho
  fr : ∀ a o, a ∉ G.rho → H a = some o → H' a = some o
  nw : ∀ a, G'.hot a → G.hot a ∨ H a = none
abbrev Rch := Gh → Hp → Gh → Hp → Prop
structure WalkT (Γ : Gm) (Rc : Rch) (J : It) (ts : List T) (ok : Mem → Prop) (G0 : Gh) (H0 : Hp) : Prop where
  goes : ∀ i G H m, i < ts.length → Rc G0 H0 G H → MR Γ G m H → ok m → J.go i H
  stops : ∀ G H m, Rc G0 H0 G H → MR Γ G m H → ok m → J.stop ts.length H
  yields : ∀ i G H m x H' t, ts[i]? = some t → Rc G0 H0 G H → MR Γ G m H → ok m → J.yld i H x H' → Stp G H G H' ∧ MR Γ G m H' ∧ VR Γ G H' t x
structure ContI (Γ : Gm) (W : WX) (Rc : Rch) (G : Gh) (H : Hp) (σ : L2.St) (P : List T → (Mem → Prop) → Mem → Prop) (F : FX) (R : It → Hp → Prop) : Prop where
  ok : ∀ ts ok m' G' H' J, P ts ok m' → Stp G H G' H' → MR Γ G' m' H' → WalkT Γ Rc J ts ok G' H' → R J H'
  ex : ∀ x m' G' H' c d, F x m' → Stp G H G' H' → MR Γ G' m' H' → XR Γ G' H' x c d → W c d σ H'
def iOf (Rc : Rch) (Γ : Gm) (W : WX) (a : AI) : TI := fun σ H R => ∃ G z m P F, MR Γ G m H ∧ SR Γ G H z σ ∧ a z m P F ∧ ContI Γ W Rc G H σ P F R
def SI (c : Cl) (X : Cx) (tg e : Expr) (a : AI) : Prop := PI X tg e (iOf Go (go X c.cls) c.W a)
def SIB (c : Cl) (X : Cx) (tg e : Expr) (a : AI) : Prop := PI X tg e (iOf Fro (go X c.cls) c.W a)
@[simp] def sFor1 (ok : Mem → Prop) (g : AGt) (p : AS) (D : EA) : List T → SS → Mem → Prop
  | [] => fun z m => ok m ∧ D.nx z m
  | t :: ts => fun z m => ok m ∧ g t z m (fun z1 m1 => p { D with nx := sFor1 ok g p D ts, ct := sFor1 ok g p D ts, bk := D.nx } z1 m1) D.ex
@[simp] def sFor (a : AI) (g : AGt) (p : AS) : AS := fun D z m => a z m (fun ts ok m1 => sFor1 ok g p D ts z m1) (D.ex z)
section
variable {Γ : Gm} {W : WX} {G G' G2 : Gh} {H H' H2 : Hp} {v : V} {t : T} {m : Mem} {z : SS} {σ : L2.St}
theorem Fro.go (f : Fro G H G' H') : Go G H G' H' := ⟨f.pre, fun a o n h => ⟨f.fr a o (fun y => n (hot_iff.mpr (.inl y))) h, fun y => by
  rcases f.nw a y with q | q
  · exact n q
  · rw [q] at h; cases h⟩⟩
theorem Stp.fro (s : Stp G H G' H') : Fro G H G' H' := ⟨s.pre, s.fr, s.ss.nw⟩
theorem WalkT.fro {J : It} {ts : List T} {ok : Mem → Prop} (w : WalkT Γ Go J ts ok G H) : WalkT Γ Fro J ts ok G H :=
  ⟨fun i G H m h r => w.goes i G H m h r.go, fun G H m r => w.stops G H m r.go, fun i G H m x H' t h r => w.yields i G H m x H' t h r.go⟩
theorem WalkT.walk {J : It} {ts : List T} {ok : Mem → Prop} {Rc : Rch} (w : WalkT Γ Rc J ts ok G H) :
    Walk J ts.length (fun H1 => ∃ G1 m, Rc G H G1 H1 ∧ MR Γ G1 m H1 ∧ ok m) (fun i H1 x H2 => ∀ G1 m, Rc G H G1 H1 → MR Γ G1 m H1 → ok m → ∃ t, ts[i]? = some t ∧ Stp G1 H1 G1 H2 ∧ MR Γ G1 m H2 ∧ VR Γ G1 H2 t x) :=
  ⟨fun i H1 hi ⟨G1, m, r, mr, o⟩ => w.goes i G1 H1 m hi r mr o, fun H1 ⟨G1, m, r, mr, o⟩ => w.stops G1 H1 m r mr o, fun i H1 x H2 hi _ y G1 m r mr o => ⟨_, List.getElem?_eq_getElem hi, w.yields i G1 H1 m x H2 _ (List.getElem?_eq_getElem hi) r mr o y⟩⟩
theorem SR.step0 (r : SR Γ G H z σ) (n : G.all.Nodup) (s : Stp G H G H') : SR Γ G H' z σ := r.step n s
end
section
variable {c : Cl} {X : Cx} {e x y w tg : Expr} {es : List Expr} {a b d : AE} {ta tb : AT} {l : AA} {g : AGt} {gs : AGs} {p q : AS} {pos : Pos} {st : Stmt} {sts sts2 : List Stmt} {ai : AI}
theorem SI.sib (h : SI c X tg e ai) : SIB c X tg e ai := pi_weak h fun σ H R ⟨G, z, m, P, F, mr, sr, ha, k⟩ => ⟨G, z, m, P, F, mr, sr, ha, ⟨fun ts ok m' G' H' J p s r w => k.ok ts ok m' G' H' J p s r w.fro, k.ex⟩⟩
theorem s_while (hp : PassesOwn (model X.prog X.w) X.A X.env X.xe) (ht : ST c X e ta) (hb : S2 c X sts p) : S1 c X (.While e sts [] pos) (sWhile ta p) :=
  ps_weak (ps_while hp ht hb) fun E σ H ⟨G, z, m, D, mr, sr, ⟨n, h⟩, k⟩ => by
    refine ⟨fun n σ1 H1 => ∃ G1 z1 m1, SStp G H G1 H1 ∧ MR (go X c.cls) G1 m1 H1 ∧ SR (go X c.cls) G1 H1 z1 σ1 ∧ sWhileN ta p n D z1 m1, ⟨n, G, z, m, SStp.refl, mr, sr, h⟩, ?_⟩
    rintro n σ1 H1 ⟨G1, z1, m1, s1, r1, sr1, h⟩
    cases n with
    | zero => exact h.elim
    | succ n =>
      have k1 := k.step s1 mr.nd r1.nd
      refine ⟨G1, z1, m1, _, _, r1, sr1, h, k1.ex' r1.nd sr1 fun b m2 G2 b' H2 p2 s2 r2 e2 => ?_⟩
      subst e2
      have k2 := k1.step s2.ss r1.nd r2.nd
      have sr2 := sr1.step r1.nd s2
      have s12 := s1.trans s2.ss mr.nd r1.nd
      cases b with
      | false => exact k2.nx z1 m2 G2 σ1 H2 p2 SStp.refl r2 sr2
      | true =>
        refine ⟨fun σ3 H3 => ∃ G3 z3 m3, SStp G H G3 H3 ∧ MR (go X c.cls) G3 m3 H3 ∧ SR (go X c.cls) G3 H3 z3 σ3 ∧ sWhileN ta p n D z3 m3, fun σ3 H3 q => ⟨n, Nat.lt_succ_self n, q⟩, ?_⟩
        exact ⟨G2, z1, m2, _, r2, sr2, p2, ⟨fun z3 m3 G3 σ3 H3 p3 s3 r3 sr3 => ⟨G3, z3, m3, s12.trans s3 mr.nd r2.nd, r3, sr3, p3⟩, k2.rt, k2.nx, fun z3 m3 G3 σ3 H3 p3 s3 r3 sr3 => ⟨G3, z3, m3, s12.trans s3 mr.nd r2.nd, r3, sr3, p3⟩, k2.ex⟩⟩
theorem s_for (hp : PassesOwn (model X.prog X.w) X.A X.env X.xe) (hc : X.calm = true) (hi : SI c X tg e ai) (hg : SG c X tg g) (hb : S2 c X sts p) (hs : ∀ x, foldedSetIterable e X.env x = pure x := by intro _; rfl) : S1 c X (.For tg e sts [] pos) (sFor ai g p) :=
  ps_weak (ps_for hp hc hi hg hb hs) fun E σ H ⟨G, z, m, D, mr, sr, h, k⟩ => by
    refine ⟨G, z, m, _, _, mr, sr, h, ⟨fun ts ok m1 G1 H1 J p1 s1 r1 w => ?_, fun x m' G' H' cc d h1 h2 h3 h4 => k.ex z x m' G' σ H' cc d h1 h2.ss h3 (sr.step mr.nd h2) h4⟩⟩
    have k1 := k.step s1.ss mr.nd r1.nd
    have okOf : ∀ {ts : List T} {z : SS} {m : Mem}, sFor1 ok g p D ts z m → ok m := fun {ts z m} h => by cases ts <;> exact h.1
    refine for_it w.walk (fun i σ2 H2 => ∃ G2 z2 m2, SStp G1 H1 G2 H2 ∧ MR (go X c.cls) G2 m2 H2 ∧ SR (go X c.cls) G2 H2 z2 σ2 ∧ sFor1 ok g p D (ts.drop i) z2 m2) ⟨G1, z, m1, SStp.refl, r1, sr.step mr.nd s1, p1⟩
      (fun i σ2 H2 _ ⟨G2, z2, m2, s2, r2, _, h2⟩ => ⟨G2, m2, s2.go, r2, okOf h2⟩) ?_ ?_
    · rintro i x σ2 H2 H3 hi ⟨G2, z2, m2, s2, r2, sr2, h2⟩ y
      obtain ⟨t, et, s3, r3, vt⟩ := y G2 m2 s2.go r2 (okOf h2)
      rw [List.drop_eq_getElem_cons hi] at h2
      rw [List.getElem?_eq_getElem hi] at et
      cases et
      have s23 := s2.trans s3.ss r1.nd r2.nd
      have k3 := k1.step s23 r1.nd r3.nd
      refine ⟨G2, z2, m2, _, _, _, r3, sr2.step r2.nd s3, vt, h2.2, ContG.mk' k3 SStp.refl r3.nd r3.nd fun z4 m4 G4 σ4 H4 p4 s4 r4 sr4 => ?_⟩
      have k4 := k3.step s4 r3.nd r4.nd
      have s24 := s23.trans s4 r1.nd r3.nd
      exact ⟨G4, z4, m4, _, r4, sr4, p4, ⟨fun z5 m5 G5 σ5 H5 p5 s5 r5 sr5 => ⟨G5, z5, m5, s24.trans s5 r1.nd r4.nd, r5, sr5, p5⟩, k4.rt, k4.nx, fun z5 m5 G5 σ5 H5 p5 s5 r5 sr5 => ⟨G5, z5, m5, s24.trans s5 r1.nd r4.nd, r5, sr5, p5⟩, k4.ex⟩⟩
    · rintro σ2 H2 ⟨G2, z2, m2, s2, r2, sr2, h2⟩
      rw [List.drop_length] at h2
      exact k1.nx z2 m2 G2 σ2 H2 h2.2 s2 r2 sr2
end
/-! ## comprehensions -/
def wipeA (z : SS) : List Nat → SS
  | [] => z
  | v :: vs => (wipeA z vs).set v none
abbrev ACt := T → SS → (SS → Prop) → Prop
@[simp] def cN (i : Nat) : ACt := fun t z P => P (z.set i (some (.v t)))
@[simp] def cTs : List Nat → List T → SS → (SS → Prop) → Prop
  | [], [], z, P => P z
  | i :: is, t :: ts, z, P => cTs is ts (z.set i (some (.v t))) P
  | _, _, _, _ => False
@[simp] def cT (is : List Nat) : ACt := fun t z P => match t with | .tup ts => cTs is ts z P | _ => False
@[simp] def gNs : List Nat → TGs
  | [] => gNil
  | i :: is => gCons (gName i) (gNs is)
@[simp] def aLc1 (ok : Mem → Prop) (g : ACt) (vs : List Nat) (tt : AT) (e : AE) (z : SS) (P : PX) : List T → List T → Mem → Prop
  | acc, [], m => ok m ∧ P (.lst acc) m
  | acc, t :: ts, m => ok m ∧ g t (wipeA z vs) (fun z1 => tt z1 m (fun k m2 => if k = true then e z1 m2 (fun y m3 => acc.length < sizeLine ∧ aLc1 ok g vs tt e z P (acc ++ [y]) ts m3) (fun _ _ => False) else aLc1 ok g vs tt e z P acc ts m2) (fun _ _ => False))
@[simp] def aLc (a : AI) (g : ACt) (vs : List Nat) (tt : AT) (e : AE) : AE := fun z m P F => a z m (fun ts ok m1 => aLc1 ok g vs tt e z P [] ts m1) F
@[simp] def aYes : AT := fun _ m P _ => P true m
/-- a target of a comprehension: what it does to the slots -/
def SimC (Γ : Gm) (vs : List Nat) (tg : TG) (g : ACt) : Prop := ∀ G m H z σ t v (P : SS → Prop) (Q : L2.St → Hp → Prop), MR Γ G m H → SR Γ G H (wipeA z vs) (wipe σ vs) → VR Γ G H t v → g t (wipeA z vs) P →
  (∀ z1 σ1, P z1 → SR Γ G H z1 σ1 → wipe σ1 vs = wipe σ vs → Q σ1 H) → tg v (wipe σ vs) H Q
section
variable {Γ : Gm} {W : WX} {G G' G2 : Gh} {H H' H2 : Hp} {v : V} {t : T} {m : Mem} {z : SS} {σ : L2.St}
theorem wipeA_len : ∀ vs : List Nat, (wipeA z vs).length = z.length
  | [] => rfl
  | v :: vs => by rw [wipeA, List.length_set, wipeA_len vs]
theorem SR.wipe (sr : SR Γ G H z σ) : ∀ vs : List Nat, SR Γ G H (wipeA z vs) (wipe σ vs)
  | [] => sr
  | v :: vs => by
    have h := SR.wipe sr vs
    refine ⟨by rw [wipeA_len, wipe_length, sr.len], fun i t e => ?_, fun i t e => ?_⟩
    · rw [wipeA] at e
      rw [L2.wipe]
      by_cases hc : v = i
      · subst hc
        have hi : v < (wipeA z vs).length := by
          have := (List.getElem?_eq_some_iff.mp e).1
          simpa using this
        rw [List.getElem?_set_self hi] at e
        cases e
      · rw [List.getElem?_set_ne hc] at e ⊢
        exact h.val i t e
    · rw [wipeA] at e
      rw [L2.wipe]
      by_cases hc : v = i
      · subst hc
        have hi : v < (wipeA z vs).length := by
          have := (List.getElem?_eq_some_iff.mp e).1
          simpa using this
        rw [List.getElem?_set_self hi] at e
        cases e
      · rw [List.getElem?_set_ne hc] at e ⊢
        exact h.own i t e
theorem wipe_get (σ : L2.St) (i : Nat) : ∀ vs : List Nat, (wipe σ vs)[i]? = if i ∈ vs ∧ i < σ.length then some none else σ[i]?
  | [] => by simp [L2.wipe]
  | v :: vs => by
    rw [L2.wipe]
    by_cases hc : v = i
    · subst hc
      by_cases hl : v < σ.length
      · rw [List.getElem?_set_self (by rw [wipe_length]; exact hl), if_pos ⟨List.mem_cons_self, hl⟩]
      · rw [if_neg fun z => hl z.2, List.getElem?_eq_none (by rw [List.length_set, wipe_length]; omega), List.getElem?_eq_none (by omega)]
    · rw [List.getElem?_set_ne hc, wipe_get σ i vs]
      have : i ∈ v :: vs ↔ i ∈ vs := by simp [Ne.symm hc]
      simp only [this]
theorem wipe_set {σ σ1 : L2.St} {vs : List Nat} {i : Nat} {x : Option V} (hi : i ∈ vs) (h : wipe σ1 vs = wipe σ vs) : wipe (σ1.set i x) vs = wipe σ vs := by
  rw [← h]
  refine List.ext_getElem? fun j => ?_
  rw [wipe_get, wipe_get, List.length_set]
  split
  · rfl
  · rename_i hn
    by_cases hc : i = j
    · subst hc
      have : ¬ i < σ1.length := fun y => hn ⟨hi, y⟩
      rw [List.getElem?_eq_none (by rw [List.length_set]; omega), List.getElem?_eq_none (by omega)]
    · rw [List.getElem?_set_ne hc]
theorem wipe_wipe {σ : L2.St} {vs : List Nat} : wipe (wipe σ vs) vs = wipe σ vs := by
  refine List.ext_getElem? fun j => ?_
  rw [wipe_get, wipe_get, wipe_length]
  split
  · rfl
  · rfl
theorem sim_cN (i : Nat) : SimC Γ [i] (gName i) (cN i) := fun G m H z σ t v P Q mr sr vr h k => k _ _ h (sr.set vr i) (wipe_set List.mem_cons_self wipe_wipe)
theorem sim_cTs {vs : List Nat} {P : SS → Prop} {Q : L2.St → Hp → Prop} : ∀ (is : List Nat) (ts : List T) (us : List V) (z1 : SS) (σ1 : L2.St), (∀ i ∈ is, i ∈ vs) → SR Γ G H z1 σ1 → wipe σ1 vs = wipe σ vs → VRs Γ G H ts us → cTs is ts z1 P →
    (∀ z1 σ1, P z1 → SR Γ G H z1 σ1 → wipe σ1 vs = wipe σ vs → Q σ1 H) → gNs is us σ1 H Q
  | [], [], us, z1, σ1, _, sr, e, vr, h, k => ⟨vrs_nil.mp vr, k z1 σ1 h sr e⟩
  | [], _ :: _, us, z1, σ1, _, sr, e, vr, h, k => h.elim
  | _ :: _, [], us, z1, σ1, _, sr, e, vr, h, k => h.elim
  | i :: is, t :: ts, us, z1, σ1, hv, sr, e, vr, h, k => by
    obtain ⟨v, r, e1, h1, h2⟩ := vrs_cons.mp vr
    exact ⟨v, r, e1, sim_cTs is ts r _ _ (fun j hj => hv j (List.mem_cons_of_mem _ hj)) (sr.set h1 i) (wipe_set (hv i List.mem_cons_self) e) h2 h k⟩
theorem cTs_len {P : SS → Prop} : ∀ {is : List Nat} {ts : List T} {z : SS}, cTs is ts z P → ts.length = is.length
  | [], [], _, _ => rfl
  | [], _ :: _, _, h => h.elim
  | _ :: _, [], _, h => h.elim
  | _ :: is, _ :: ts, _, h => by
    have : cTs is ts _ P := h
    rw [List.length_cons, List.length_cons, cTs_len this]
theorem sim_cT (is : List Nat) {n : Nat} (hn : is.length = n) : SimC Γ is (gTup Γ.K n (gNs is)) (cT is) := fun G m H z σ t v P Q mr sr vr h k => by
  cases t with
  | tup ts =>
    obtain ⟨p, us, e1, e2, e3⟩ := rdT (.inl vr) (ts := ts) rfl
    have h : cTs is ts (wipeA z is) P := h
    refine ⟨p, us, e1, e2, ?_, sim_cTs is ts us _ _ (fun _ h => h) sr wipe_wipe e3 h k⟩
    rw [e3.length, ← hn, cTs_len h]
  | _ => exact h.elim
end
section
variable {c : Cl} {X : Cx} {e tg iter : Expr} {ifs : List Expr} {a : AE} {tt : AT} {ai : AI} {g : ACt} {pos : Pos} {st : Stmt} {scope : Scope} {own : List (Str × Nat)} {vs : List Nat}
def noW : WX := fun _ _ _ _ => False
/-- within a comprehension nothing is raised -/
def c0 (c : Cl) : Cl := ⟨c.cls, noW⟩
def SEs (c : Cl) (X : Cx) (es : List Expr) (a : AT) : Prop := PTs X es (rOf (fun _ _ b k => b = k) (go X c.cls) c.W a)
theorem ses_nil : SEs c X [] aYes := by
  have h : PTs X [] tYes := pts_nil
  exact ⟨fun pins s σ H Q I hq => h.run pins s σ H Q I (by
    obtain ⟨G, z, m, P, F, mr, sr, h, k⟩ := hq
    exact k.ok true m G true H h Stp.refl mr rfl)⟩
theorem ses_one (h : ST c X e tt) : SEs c X [e] tt := pts_one h
theorem lc_main {σ : L2.St} {H : Hp} {Q : VK} {gt : TG} (S : SimC (go X c.cls) vs gt g) (h : fOf (go X c.cls) c.W (aLc ai g vs tt a) σ H Q) :
    tLc (iOf Fro (go X c.cls) c.W ai) gt (rOf (fun _ _ b k => b = k) (go X c.cls) noW tt) (rOf (VR (go X c.cls)) (go X c.cls) noW a) vs σ H Q := by
  obtain ⟨G, z, m, P, F, mr, sr, h, k⟩ := h
  refine ⟨G, z, m, _, F, mr, sr, h, ⟨fun ts ok m1 G1 H1 J p1 s1 r1 w D nD => ?_, k.ex⟩⟩
  have nD0 : H D = none := free_of' r1 s1 nD
  have okOf : ∀ {acc ts : List T} {m : Mem}, aLc1 ok g vs tt a z P acc ts m → ok m := fun {acc ts m} h => by cases ts <;> exact h.1
  have sr1 := sr.step mr.nd s1
  have fro : ∀ {G2 : Gh} {H2 : Hp}, Stp ⟨G1.rho, G1.ow, D :: G1.up⟩ H1 G2 H2 → Fro G1 H1 G2 H2 := fun {G2 H2} s => ⟨s.pre, s.fr, fun b y => by
    rw [hot_iff] at y ⊢
    rw [s.ow, s.up] at y
    rcases y with y | y | y
    · exact (s.nw b y).imp .inl id
    · exact .inl (.inr (.inl y))
    · rcases List.mem_cons.mp y with y | y
      · exact .inr (by rw [y]; exact nD)
      · exact .inl (.inr (.inr y))⟩
  refine lc_it w.walk (fun i H2 => ∃ G2 m2 acc, Stp ⟨G1.rho, G1.ow, D :: G1.up⟩ H1 G2 H2 ∧ MR (go X c.cls) G2 m2 H2 ∧ RootR (go X c.cls) G2 H2 D (.lst acc) ∧ aLc1 ok g vs tt a z P acc (ts.drop i) m2)
    ⟨_, m1, [], up_stp nD, up_mr r1 nD, ⟨[], upd_same, vrs_nil.mpr rfl⟩, p1⟩ (fun i H2 _ ⟨G2, m2, acc, s2, r2, _, h2⟩ => ⟨G2, m2, fro s2, r2, okOf h2⟩) ?_ ?_
  · rintro i x H2 H3 hi ⟨G2, m2, acc, s2, r2, rt2, h2⟩ y
    obtain ⟨t, et, s3, r3, vt⟩ := y G2 m2 (fro s2) r2 (okOf h2)
    rw [List.drop_eq_getElem_cons hi] at h2
    rw [List.getElem?_eq_getElem hi] at et
    cases et
    have s23 := s2.trans s3
    have srw : SR (go X c.cls) G2 H3 (wipeA z vs) (wipe σ vs) := by
      refine SR.wipe (sr1.sstep (fro s23).go fun j b hb => ⟨by rw [s23.ow]; exact hb, fun o e => s23.fr b o (fun y => ((nd3 r1.nd).1 y).1 (own_mem hb)) e⟩) vs
    refine S G2 m2 H3 z σ _ x _ _ r3 srw vt h2.2 fun z1 σ1 p4 sr4 e4 => ⟨e4, ?_⟩
    have DinUp : ∀ {G4 : Gh} {H4 : Hp}, Stp ⟨G1.rho, G1.ow, D :: G1.up⟩ H1 G4 H4 → D ∈ G4.up := fun s => by rw [s.up]; exact List.mem_cons_self
    have root : ∀ {G4 G5 : Gh} {H4 H5 : Hp} {m4 : Mem}, MR (go X c.cls) G4 m4 H4 → D ∈ G4.up → Stp G4 H4 G5 H5 → RootR (go X c.cls) G4 H4 D (.lst acc) → RootR (go X c.cls) G5 H5 D (.lst acc) := fun {G4 G5 H4 H5 m4} r d s rt =>
      rt.go s.go fun o e => s.fr D o (fun y => ((nd3 r.nd).1 y).2 d) e
    refine ⟨G2, z1, m2, _, _, r3, sr4, p4, ⟨fun k5 m5 G5 b5 H5 p5 s5 r5 e5 => ?_, fun x m' G' H' cc d h1 => h1.elim⟩⟩
    subst e5
    have s25 := s23.trans s5
    have rt5 : RootR (go X c.cls) G5 H5 D (.lst acc) := root r3 (DinUp s23) s5 (root r2 (DinUp s2) s3 rt2)
    cases k5 with
    | false => exact ⟨G5, m5, acc, s25, r5, rt5, p5⟩
    | true =>
      refine ⟨G5, z1, m5, _, _, r5, sr4.step r3.nd s5, p5, ⟨fun t6 m6 G6 v6 H6 p6 s6 r6 v6r => ?_, fun x m' G' H' cc d h1 => h1.elim⟩⟩
      obtain ⟨us, hD, vus⟩ := root r5 (DinUp s25) s6 rt5
      have s26 := s25.trans s6
      have dup := DinUp s26
      have go6 : Go G6 H6 G6 (upd H6 D (.lst (us ++ [v6]))) := ⟨List.prefix_refl _, fun b o n h => ⟨by rw [upd_ne (show b ≠ D from fun y => n (hot_iff.mpr (.inr (.inr (by rw [y]; exact dup)))))]; exact h, n⟩⟩
      have rhoD : ∀ b, b ∈ G6.rho → b ≠ D := fun b hb y => ((nd3 r6.nd).1 (y ▸ hb)).2 dup
      refine ⟨us, hD, by rw [vus.length]; exact p6.1, G6, m6, acc ++ [t6], ?_, ?_, ⟨us ++ [v6], upd_same, (vus.go go6).app (VRs.one (v6r.go go6))⟩, p6.2⟩
      · exact ⟨s26.ow, s26.up, s26.pre, fun b o n h => by rw [upd_ne (ne_of_none h nD)]; exact s26.fr b o n h, s26.nw⟩
      · exact ⟨r6.len, fun n cl b e1 e2 => (r6.cell n cl b e1 e2).go go6 (upd_ne (rhoD b (List.mem_of_getElem? e2))), r6.nd, fun b y => by
          by_cases hb : b = D
          · rw [hb, upd_same]; simp
          · rw [upd_ne hb]; exact r6.live b y⟩
  · rintro H2 ⟨G2, m2, acc, s2, r2, rt2, h2⟩
    rw [List.drop_length] at h2
    exact k.ok (.lst acc) m2 G2 D H2 h2.2 (s1.upd s2) nD0 r2 rt2
theorem sf_lc {gt : TG} (hc : X.calm = true) (hN : X.N.Nodup) (S : SimC (go X c.cls) (own.map (·.2)) gt g) (hi : SIB c X tg iter ai) (ok : BlkOk X.N X.env.scope scope own)
    (hg : ∀ (s : Shared) (H : Hp) (C : Addr) (cl : List (Str × Addr)) (fp : List Addr), PG (X.blk s H scope (compEnvC scope cl C X.env) fp) tg gt)
    (ht : ∀ (s : Shared) (H : Hp) (C : Addr) (cl : List (Str × Addr)) (fp : List Addr), SEs (c0 c) (X.blk s H scope (compEnvC scope cl C X.env) fp) ifs tt)
    (he : ∀ (s : Shared) (H : Hp) (C : Addr) (cl : List (Str × Addr)) (fp : List Addr), SE (c0 c) (X.blk s H scope (compEnvC scope cl C X.env) fp) e a) (hs : ∀ x, foldedSetIterable iter X.env x = pure x := by intro _; rfl) :
    SF c X (.ListComp e [⟨tg, iter, ifs, 0⟩] scope pos) (aLc ai g (own.map (·.2)) tt a) :=
  pe_weak (pe_lc (tt := rOf (fun _ _ b k => b = k) (go X c.cls) noW tt) (te := rOf (VR (go X c.cls)) (go X c.cls) noW a) hc hN hi ok hg ht he hs) fun σ H Q h => lc_main S h
/-- x = [..] on one line, x a local -/
theorem s_setLc {i : Nat} {y : Str} {py spos : Pos} {gt : TG} (hc : X.calm = true) (hN : X.N.Nodup) (hy : X.N[i]? = some y) (hyl : X.env.scope.names.lookup y = some .local)
    (hsw : swapsWith (.ListComp e [⟨tg, iter, ifs, 0⟩] scope pos) (some (.Name y py)) spos.line X.env = pure true) (S : SimC (go X c.cls) (own.map (·.2)) gt g) (hi : SIB c X tg iter ai) (ok : BlkOk X.N X.env.scope scope own)
    (hg : ∀ (s : Shared) (H : Hp) (C : Addr) (cl : List (Str × Addr)) (fp : List Addr), PG (X.blk s H scope (compEnvC scope cl C X.env) fp) tg gt)
    (ht : ∀ (s : Shared) (H : Hp) (C : Addr) (cl : List (Str × Addr)) (fp : List Addr), SEs (c0 c) (X.blk s H scope (compEnvC scope cl C X.env) fp) ifs tt)
    (he : ∀ (s : Shared) (H : Hp) (C : Addr) (cl : List (Str × Addr)) (fp : List Addr), SE (c0 c) (X.blk s H scope (compEnvC scope cl C X.env) fp) e a) (hs : ∀ x, foldedSetIterable iter X.env x = pure x := by intro _; rfl) :
    PS X (.Assign [.Name y py] (.ListComp e [⟨tg, iter, ifs, 0⟩] scope pos) spos) (tAsg (fOf (go X c.cls) c.W (aLc ai g (own.map (·.2)) tt a)) (gName i)) :=
  ps_weak (ps_setLc (tt := rOf (fun _ _ b k => b = k) (go X c.cls) noW tt) (te := rOf (VR (go X c.cls)) (go X c.cls) noW a) hc hN hy hyl hsw hi ok hg ht he hs) fun D σ H h => lc_main S h
end
end AM
set_option maxHeartbeats 4000000
namespace AM
open PySem PySem.Spec PyProof.Rows L2 Eb
/-! ## defs -/
/-- a def's promise by its reading over trees -/
def spA (Γ : Gm) (n : Nat) (F : AF) (vs : List V) (H : Hp) (Q : VK) (E : XK) : Prop := vs.length = n ∧ ∃ G ts m P Fx, MR Γ G m H ∧ G.ow = [] ∧ VRs Γ G H ts vs ∧ F ts m P Fx ∧
  (∀ t m' G' v H', P t m' → Stp G H G' H' → MR Γ G' m' H' → VR Γ G' H' t v → Q v H') ∧ (∀ x m' G' H' c d, Fx x m' → Stp G H G' H' → MR Γ G' m' H' → XR Γ G' H' x c d → E c d H')
def noE : XK := fun _ _ _ => False
/-- md: it may raise; gd: nothing is being shown around -/
def cxm (md : Bool) (P : Program) (w : World) : CXT := if md then L2.CX P w else C8.CX0
structure Fa (gd md : Bool) (P : Program) (w : World) (K : PySem.W.Frag) (mg : Str → Option Value) (base : Heap) (cls : List String) (k : Nat) (f : Addr) (fd : FuncData) (ps : List Str) (F : AF) : Prop where
  run : ∀ (A : Around) (outer : List Env) (s : Shared) (H : Hp) (args : Args) (us : List Value) (vs : List V) (Q : VK) (E : XK), (gd = true → A.guards = some []) → Room k A → Env0 P w K mg base A outer s H → BindsTo s fd args (ps.zip us) → Vals vs us →
    spA ⟨K, cls⟩ ps.length F vs H Q (if md then E else noE) → codeAny (model P w) A (.call (.ref f) args) (L2.CR (cxm md P w) outer P w H s Q E) s
theorem Fa.mono {gd md : Bool} {P : Program} {w : World} {K : PySem.W.Frag} {mg : Str → Option Value} {base : Heap} {cls : List String} {j k : Nat} {f : Addr} {fd : FuncData} {ps : List Str} {F : AF} (h : Fa gd md P w K mg base cls j f fd ps F) (hk : j ≤ k) : Fa gd md P w K mg base cls k f fd ps F :=
  ⟨fun A outer s H args us vs Q E hg hr => h.run A outer s H args us vs Q E hg (hr.mono hk)⟩
/-- a weaker reading -/
theorem Fa.imp {gd md : Bool} {P : Program} {w : World} {K : PySem.W.Frag} {mg : Str → Option Value} {base : Heap} {cls : List String} {k : Nat} {f : Addr} {fd : FuncData} {ps : List Str} {F F' : AF} (h : Fa gd md P w K mg base cls k f fd ps F)
    (hi : ∀ ts m P Fx, F' ts m P Fx → F ts m P Fx) : Fa gd md P w K mg base cls k f fd ps F' :=
  ⟨fun A outer s H args us vs Q E hg hr e b r ⟨l, G, ts, m, P, Fx, mr, ow, vr, hf, k1, k2⟩ => h.run A outer s H args us vs Q E hg hr e b r ⟨l, G, ts, m, P, Fx, mr, ow, vr, hi _ _ _ _ hf, k1, k2⟩⟩
@[simp] def stA (n : Nat) (ts : List T) : SS := ts.map (fun t => some (.v t)) ++ List.replicate (n - ts.length) none
/-- a def by its body -/
def fB (n : Nat) (a : AS) : AF := fun ts m P Fx => a { nx := fun _ m => P .non m, rt := P, bk := fun _ _ => False, ct := fun _ _ => False, ex := fun _ => Fx } (stA n ts) m
section
variable {Γ : Gm} {G G' : Gh} {H H' : Hp} {m : Mem}
theorem start_sr {N : List Str} {ts : List T} {vs : List V} (h : VRs Γ G H ts vs) : SR Γ G H (stA N.length ts) (L2.start N vs) := by
  have hl := h.length
  refine ⟨by simp [stA, L2.start, hl], fun i t e => ?_, fun i t e => ?_⟩
  · unfold stA at e
    by_cases hi : i < ts.length
    · rw [List.getElem?_append_left (by simpa using hi), List.getElem?_map] at e
      have et : ts[i]? = some t := by
        cases q : ts[i]? with
        | none => rw [q] at e; cases e
        | some u => rw [q] at e; cases e; rfl
      obtain ⟨v, e1, e2⟩ := h.get et
      refine ⟨v, ?_, e2⟩
      unfold L2.start
      rw [List.getElem?_append_left (by rw [List.length_map, hl]; exact hi), List.getElem?_map, e1]; rfl
    · rw [List.getElem?_append_right (by simpa using hi), List.getElem?_replicate] at e
      split at e <;> cases e
  · unfold stA at e
    by_cases hi : i < ts.length
    · rw [List.getElem?_append_left (by simpa using hi), List.getElem?_map] at e
      cases q : ts[i]? with
      | none => rw [q] at e; cases e
      | some u => rw [q] at e; cases e
    · rw [List.getElem?_append_right (by simpa using hi), List.getElem?_replicate] at e
      split at e <;> cases e
/-- at a def's end what it owned is owned no more -/
theorem end_off (mr : MR Γ G m H) (hz : G.ow = []) {m' : Mem} (s : SStp G H G' H') (r : MR Γ G' m' H') : Stp G H ⟨G'.rho, [], G'.up⟩ H' ∧ MR Γ ⟨G'.rho, [], G'.up⟩ m' H' ∧ Go G' H' ⟨G'.rho, [], G'.up⟩ H' := by
  have hh : ∀ a, Gh.hot ⟨G'.rho, [], G'.up⟩ a → G'.hot a := fun a z => by
    rw [hot_iff] at z ⊢
    rcases z with z | z | z
    · exact .inl z
    · cases z
    · exact .inr (.inr z)
  have g : Go G' H' ⟨G'.rho, [], G'.up⟩ H' := Go.less (Γ := Γ) rfl hh
  refine ⟨⟨hz.symm, s.up, s.pre, fun a o n h => s.fr a o n (by rw [hz]; simp) h, fun a z => ?_⟩, ⟨r.len, fun n cl a e1 e2 => (r.cell n cl a e1 e2).go' g, ?_, fun a z => r.live a (hh a z)⟩, g⟩
  · have z : a ∈ G'.rho := z
    rcases s.nw a (hot_iff.mpr (.inl z)) with q | q
    · rw [hot_iff, hz] at q
      rcases q with q | q | q
      · exact .inl q
      · cases q
      · rw [← s.up] at q
        exact (((nd3 r.nd).1 z).2 q).elim
    · exact .inr q
  · have n := r.nd
    unfold Gh.all at n ⊢
    refine n.sublist ?_
    exact List.Sublist.append_right (List.Sublist.append_left (by simp) _) _
theorem body_run {P : Program} {w : World} {Q : VK} {E : XK} {N : List Str} {vs : List V} {a : AS} {W : WX} (hW : ∀ c d σ H, E c d H → W c d σ H) (h : spA Γ vs.length (fB N.length a) vs H Q E) :
    sOf Γ W a { nx := fun _ H' => Q .non H', rt := Q } (L2.start N vs) H := by
  obtain ⟨_, G, ts, m, P, Fx, mr, ow, vr, hf, k1, k2⟩ := h
  refine ⟨G, _, m, _, mr, start_sr vr, hf, ⟨fun z m' G' σ H' p s r _ => ?_, fun t m' G' v H' p s r v => ?_, fun z m' G' σ H' p => p.elim, fun z m' G' σ H' p => p.elim, fun z x m' G' σ H' c d p s r _ xr => ?_⟩⟩
  · obtain ⟨s1, r1, _⟩ := end_off mr ow s r
    exact k1 _ m' _ _ H' p s1 r1 (vr_non.mpr rfl)
  · obtain ⟨s1, r1, g⟩ := end_off mr ow s r
    exact k1 _ m' _ _ H' p s1 r1 (v.go g)
  · obtain ⟨s1, r1, g⟩ := end_off mr ow s r
    exact hW _ _ _ _ (k2 x m' _ H' c d p s1 r1 (xr.go g))
end
section
variable {gd : Bool} {P : Program} {w : World} {K : PySem.W.Frag} {mg : Str → Option Value} {base : Heap} {cls : List String} {k : Nat} {f : Addr} {fd : FuncData} {ps N : List Str} {x qual : Str} {params : Arguments} {body : List Stmt} {scope : Scope} {dvs : List V} {kws : List (Str × V)} {a : AS}
/-- what a body must show: it raises nothing -/
def By0 (gd : Bool) (P : Program) (w : World) (K : PySem.W.Frag) (mg : Str → Option Value) (base : Heap) (cls : List String) (k : Nat) (f : Addr) (N : List Str) (qual : Str) (body : List Stmt) (scope : Scope) (a : AS) : Prop :=
  ∀ (cdv : Value) (A : Around) (outer : List Env) (s : Shared) (H : Hp) (E : XK) (X : Cx), X = (cxOf C8.CX0 P w K mg base N qual scope f cdv A outer s H E).nox → (gd = true → X.A.guards = some []) → Room k X.A →
    S2 ⟨cls, noW⟩ (cxOf C8.CX0 P w K mg base N qual scope f cdv A outer s H E).nox body a
theorem fa0 (F : FunD K x qual params body scope dvs kws f fd) (S : FnScope N ps scope) (hb : By0 gd P w K mg base cls k f N qual body scope a) : Fa gd false P w K mg base cls (k + 1) f fd ps (fB N.length a) := by
  refine ⟨fun A outer s H args us vs Q E hg hr e0 hbd r hsp => ?_⟩
  obtain ⟨oc, od, dV, kV, doc, pm, an, cdv, ct, osl, rfl, lk, hcd, _, _⟩ := F.ex
  have hl : vs.length = ps.length := hsp.1
  have KX : K.In s.heap := e0.mod.kin.keeps fun b o e => (e0.bs b o e).1
  have lim : s.heap.NoLimit := e0.mod.nolimit.keeps fun b o e => (e0.bs b o e).1
  refine codeAny_call_function hr.depth (KX _ _ lk) rfl S.co S.gen rfl (PySem.W.codeRec_of KX hcd) (hbd _ _ _ _ ?_)
  refine wpAny_newFunctionEnv_cells S.kind (fun q hq => ?_) fun env he s1 x => ?_
  · obtain ⟨n, v⟩ := q
    rcases S.par n (List.of_mem_zip hq).1 with z | z
    · exact .inl z
    · exact .inr ⟨z, PySem.W.cellsFrom_some _ _ _ (.inl z)⟩
  · subst he
    refine ⟨lim.keeps x.toInCall.keep, codeAny_func ?_⟩
    have ht := hb cdv A outer s H E _ rfl hg (hr.deeper _)
    have I : Inv (cxOf C8.CX0 P w K mg base N qual scope f cdv A outer s H E) [] (L2.start N vs) H s1 := inv_start S hr.hd e0 hl r x
    have hq : sOf ⟨K, cls⟩ noW a { nx := fun _ H' => Q .non H', rt := Q } (L2.start N vs) H := body_run (P := P) (w := w) (E := noE) (fun _ _ _ _ z => z) (by rw [hl]; exact hsp)
    refine wpAny_mono (PSs.nox ht |>.run [] s1 (L2.start N vs) H _ I hq) (fun fl s' hs => ?_) fun e s' hs => hs
    cases fl with
    | ret u => obtain ⟨v, σ', H', J, rv, q⟩ := hs; exact ⟨v, H', J.os, J.bare, J.base, J.hok, rv, q⟩
    | next => obtain ⟨σ', H', J, q⟩ := hs; exact ⟨V.non, H', J.os, J.bare, J.base, J.hok, rfl, q⟩
    | brk => obtain ⟨_, _, _, q⟩ := hs; exact False.elim q
    | cont => obtain ⟨_, _, _, q⟩ := hs; exact False.elim q
/-- .. it may raise -/
def By1 (gd : Bool) (P : Program) (w : World) (K : PySem.W.Frag) (mg : Str → Option Value) (base : Heap) (cls : List String) (k : Nat) (f : Addr) (N : List Str) (qual : Str) (body : List Stmt) (scope : Scope) (a : AS) : Prop :=
  ∀ (cdv : Value) (A : Around) (outer : List Env) (s : Shared) (H : Hp) (E : XK) (X : Cx), X = cxOf (L2.CX P w) P w K mg base N qual scope f cdv A outer s H E → (gd = true → X.A.guards = some []) → Room k X.A →
    S2 ⟨cls, fun cl d _ H => E cl d H⟩ (cxOf (L2.CX P w) P w K mg base N qual scope f cdv A outer s H E) body a
theorem fa1 (F : FunD K x qual params body scope dvs kws f fd) (S : FnScope N ps scope) (hb : By1 gd P w K mg base cls k f N qual body scope a) : Fa gd true P w K mg base cls (k + 1) f fd ps (fB N.length a) := by
  refine ⟨fun A outer s H args us vs Q E hg hr e0 hbd r hsp => ?_⟩
  obtain ⟨oc, od, dV, kV, doc, pm, an, cdv, ct, osl, rfl, lk, hcd, _, _⟩ := F.ex
  have hl : vs.length = ps.length := hsp.1
  have KX : K.In s.heap := e0.mod.kin.keeps fun b o e => (e0.bs b o e).1
  have lim : s.heap.NoLimit := e0.mod.nolimit.keeps fun b o e => (e0.bs b o e).1
  refine codeAny_call_function hr.depth (KX _ _ lk) rfl S.co S.gen rfl (PySem.W.codeRec_of KX hcd) (hbd _ _ _ _ ?_)
  refine wpAny_newFunctionEnv_cells S.kind (fun q hq => ?_) fun env he s1 x => ?_
  · obtain ⟨n, v⟩ := q
    rcases S.par n (List.of_mem_zip hq).1 with z | z
    · exact .inl z
    · exact .inr ⟨z, PySem.W.cellsFrom_some _ _ _ (.inl z)⟩
  · subst he
    refine ⟨lim.keeps x.toInCall.keep, codeAny_func ?_⟩
    have ht := hb cdv A outer s H E _ rfl hg (hr.deeper _)
    have I : Inv (cxOf (L2.CX P w) P w K mg base N qual scope f cdv A outer s H E) [] (L2.start N vs) H s1 := inv_start S hr.hd e0 hl r x
    have hq : sOf ⟨K, cls⟩ (fun cl d _ H => E cl d H) a { nx := fun _ H' => Q .non H', rt := Q } (L2.start N vs) H := body_run (P := P) (w := w) (E := E) (fun _ _ _ _ z => z) (by rw [hl]; exact hsp)
    refine wpAny_mono (ht.run [] s1 (L2.start N vs) H _ I hq) (fun fl s' hs => ?_) fun e s' hs => hs
    cases fl with
    | ret u => obtain ⟨v, σ', H', J, rv, q⟩ := hs; exact ⟨v, H', J.os, J.bare, J.base, J.hok, rv, q⟩
    | next => obtain ⟨σ', H', J, q⟩ := hs; exact ⟨V.non, H', J.os, J.bare, J.base, J.hok, rfl, q⟩
    | brk => obtain ⟨_, _, _, q⟩ := hs; exact False.elim q
    | cont => obtain ⟨_, _, _, q⟩ := hs; exact False.elim q
end
/-! ## calls -/
theorem takes0 {X : Cx} : Takes X noW := fun u s' ⟨a, B, sI, pins, σ, H, cls, d, e, I, nb, up, sky, na, os, ag, w⟩ => w.elim
/-- what a callee that may raise asks of the caller -/
def Pas (md : Bool) (X : Cx) (W : WX) : Prop := if md then Takes X W else W = noW
section
variable {gd md : Bool} {c : Cl} {X : Cx} {k j : Nat} {f C : Addr} {fd : FuncData} {ps : List Str} {F : AF} {ds : List Value} {dvs : List V} {dts : List T} {x m : Str} {p pos apos : Pos} {e o : Expr} {es : List Expr} {a : AE} {l : AA} {G : Gh}
/-- the callee runs -/
theorem runA {pins : List (Addr × Obj)} {σ : L2.St} {H : Hp} {s : Shared} {Q : VK} {us : List Value} {vs : List V} (h : Fa gd md X.prog X.w X.K X.mg X.base c.cls k f fd ps F) (hg : gd = true → X.A.guards = some []) (hr : Room k X.A) (tk : Pas md X c.W) (hb : Binds X.K fd ps ds) (hd : Vals dvs ds)
    (I : Inv X pins σ H s) (r : Vals vs us) (hs : spA (go X c.cls) ps.length F (vs ++ dvs) H Q (fun cl d H => c.W cl d σ H)) : wpAny (model X.prog X.w) X.A (call (.ref f) us) (EP X pins σ Q) X.xe s := by
  have r2 : Vals (vs ++ dvs) (us ++ ds) := r.append hd
  have hl : (us ++ ds).length = ps.length := r2.length ▸ hs.1
  cases md with
  | true =>
    have tk : Takes X c.W := tk
    refine wpAny_call (codeAny_mono (h.run X.A X.stack s H ⟨us, []⟩ (us ++ ds) (vs ++ dvs) Q (WE c.W σ) hg hr I.env0 (hb s us I.kIn hl) r2 hs) fun r s' hq => ?_)
    cases r with
    | error e => exact passAt tk σ pins H s e s' I hq
    | ok fl => cases fl <;> first | exact I.after hq | exact False.elim hq
  | false =>
    have tk : c.W = noW := tk
    rw [tk] at hs
    refine wpAny_call (codeAny_mono (h.run X.A X.stack s H ⟨us, []⟩ (us ++ ds) (vs ++ dvs) Q noE hg hr I.env0 (hb s us I.kIn hl) r2 hs) fun r s' hq => ?_)
    cases r with
    | error e => exact False.elim hq
    | ok fl => cases fl <;> first | exact I.after hq | exact False.elim hq
/-- from the caller's state to the callee's -/
theorem call_sp {Γ : Gm} {W : WX} {G1 : Gh} {H H1 : Hp} {σ : L2.St} {ts : List T} {vs : List V} {m1 : Mem} {P : PX} {Fx : FX} {Q : VK} {n : Nat} (hn : vs.length = n) (k : Cont (VR Γ) Γ W G H σ P Fx Q) (s1 : Stp G H G1 H1) (r1 : MR Γ G1 m1 H1) (v1 : VRs Γ G1 H1 ts vs) (h : F ts m1 P Fx) :
    spA Γ n F vs H1 Q (fun cl d H => W cl d σ H) := by
  let G0 : Gh := ⟨G1.rho, [], G1.ow.map (·.2) ++ G1.up⟩
  have ea : G0.all = G1.all := by simp [G0, Gh.all]
  have hh : ∀ a, G0.hot a ↔ G1.hot a := fun a => by unfold Gh.hot; rw [ea]
  have g : Go G1 H1 G0 H1 := Go.less (Γ := Γ) rfl fun a z => (hh a).mp z
  have back : ∀ {G' : Gh} {H' : Hp}, Stp G0 H1 G' H' → Stp G1 H1 ⟨G'.rho, G1.ow, G1.up⟩ H' ∧ (∀ a, Gh.hot ⟨G'.rho, G1.ow, G1.up⟩ a ↔ G'.hot a) := fun {G' H'} s => by
    refine ⟨⟨rfl, rfl, s.pre, s.fr, s.nw⟩, fun a => ?_⟩
    rw [hot_iff, hot_iff, s.ow, s.up]
    show a ∈ G'.rho ∨ a ∈ G1.ow.map (·.2) ∨ a ∈ G1.up ↔ a ∈ G'.rho ∨ a ∈ ([] : List (Nat × Addr)).map (·.2) ∨ a ∈ G1.ow.map (·.2) ++ G1.up
    simp [List.mem_append]
  have mrb : ∀ {G' : Gh} {H' : Hp} {m' : Mem}, Stp G0 H1 G' H' → MR Γ G' m' H' → MR Γ ⟨G'.rho, G1.ow, G1.up⟩ m' H' ∧ Go G' H' ⟨G'.rho, G1.ow, G1.up⟩ H' := fun {G' H' m'} s r => by
    obtain ⟨_, hb⟩ := back s
    have g2 : Go G' H' ⟨G'.rho, G1.ow, G1.up⟩ H' := Go.less (Γ := Γ) rfl fun a z => (hb a).mp z
    refine ⟨⟨r.len, fun n cl a e1 e2 => (r.cell n cl a e1 e2).go' g2, ?_, fun a z => r.live a ((hb a).mp z)⟩, g2⟩
    have n := r.nd
    unfold Gh.all at n ⊢
    rw [s.ow, s.up] at n
    simpa [G0] using n
  refine ⟨hn, G0, ts, m1, P, Fx, ⟨r1.len, fun n cl a e1 e2 => (r1.cell n cl a e1 e2).go' g, by rw [ea]; exact r1.nd, fun a z => r1.live a ((hh a).mp z)⟩, rfl, v1.go g, h, fun t m' G' v H' p s r vr => ?_, fun x m' G' H' cl d p s r xr => ?_⟩
  · obtain ⟨r2, g2⟩ := mrb s r
    exact k.ok t m' _ v H' p (s1.trans (back s).1) r2 (vr.go g2)
  · obtain ⟨r2, g2⟩ := mrb s r
    exact k.ex x m' _ H' cl d p (s1.trans (back s).1) r2 (xr.go g2)
@[simp] def aCall (F : AF) (dts : List T) (l : AA) : AE := fun z m P Fx => l z m (fun ts m1 => F (ts ++ dts) m1 P Fx) Fx
/-- a def that may be called by its name -/
structure CalA (gd md : Bool) (P : Program) (w : World) (K : PySem.W.Frag) (mg : Str → Option Value) (base : Heap) (cls : List String) (k : Nat) (x : Str) (dts : List T) (n : Nat) (F : AF) : Prop where
  ex : ∃ (f : Addr) (fd : FuncData) (ps : List Str) (ds : List Value) (dvs : List V), Fa gd md P w K mg base cls k f fd ps F ∧ ps.length = n + dts.length ∧ mg x = some (.ref f) ∧ PySem.W.keepIn K (.ref f) = true ∧ Binds K fd ps ds ∧ Vals dvs ds ∧ ∀ G H, VRs ⟨K, cls⟩ G H dts dvs
theorem CalA.imp {P : Program} {w : World} {K : PySem.W.Frag} {mg : Str → Option Value} {base : Heap} {cls : List String} {n : Nat} {F' : AF} (h : CalA gd md P w K mg base cls k x dts n F) (hi : ∀ ts m P Fx, F' ts m P Fx → F ts m P Fx) : CalA gd md P w K mg base cls k x dts n F' :=
  let ⟨f, fd, ps, ds, dvs, h1, r⟩ := h.ex; ⟨f, fd, ps, ds, dvs, h1.imp hi, r⟩
/-- how many arguments an argument list has -/
def LenA (l : AA) (n : Nat) : Prop := True
theorem se_call {n : Nat} (h : CalA gd md X.prog X.w X.K X.mg X.base c.cls k x dts n F) (hg : gd = true → X.A.guards = some []) (hr : Room j X.A) (hk : k ≤ j) (tk : Pas md X c.W) (hgl : Gl X x) (ha : SA c X (e :: es) l) (hn : (e :: es).length = n := by rfl)
    (hdb : (x == ("__debug__" : Str)) = false := by decide) (he : starEach (e :: es) X.env = (false, eval e X.env) :: starEach es X.env := by rfl) (hpl : (backTo pos (starEach es X.env)).any (·.1) = false := by rfl) :
    SE c X (.Call (.Name x p) (e :: es) [] pos) (aCall F dts l) := by
  obtain ⟨f, fd, ps, ds, dvs, h1, hlen, hm, kp, b, d, vd⟩ := h.ex
  refine ⟨fun pins s σ H Q I hq => ?_⟩
  refine wpAny_Call_Name_kw (ld_glob I hgl hm ?_ hdb)
  refine PySem.W.callWith_K (h₀ := X.base) I.ok.mod.kin kp (thn (ha.run pos pins s σ H (fun vs H1 => spA (go X c.cls) ps.length F (vs ++ dvs) H1 Q (fun cl d H => c.W cl d σ H)) I ?_) fun us s1 ⟨vs, H1, I1, r, q⟩ => ⟨I1.kIn, runA h1 hg (hr.mono hk) tk b d I1 r q⟩) he hpl
  obtain ⟨G, z, m, P, Fx, mr, sr, hl, kk⟩ := hq
  exact ⟨G, z, m, _, Fx, mr, sr, hl, kk.mv Stp.refl fun ts m1 G1 vs H1 p1 s1 r1 v1 => call_sp (by rw [List.length_append, v1.2, hn, hlen, ← (vd G1 H1).length]) kk s1 r1 (v1.1.app (vd G1 H1)) p1⟩
end
end AM
set_option maxHeartbeats 4000000
namespace AM
open PySem PySem.Spec PyProof.Rows L2 Eb
/-! ## trees whose cells lie below n -/
mutual
def Bel (n : Nat) : T → Prop
  | .obj k => k < n
  | .lst ts => Bels n ts
  | .tup ts => Bels n ts
  | .dct ts => Beld n ts
  | .ins _ ts => Belf n ts
  | .kr k _ => k ≤ n
  | .exc _ _ _ ts => Belf n ts
  | _ => True
def Bels (n : Nat) : List T → Prop
  | [] => True
  | t :: ts => Bel n t ∧ Bels n ts
def Beld (n : Nat) : List (TK × T) → Prop
  | [] => True
  | (_, t) :: ts => Bel n t ∧ Beld n ts
def Belf (n : Nat) : List (String × T) → Prop
  | [] => True
  | (_, t) :: ts => Bel n t ∧ Belf n ts
end
section
variable {n : Nat}
@[simp] theorem bel_non : Bel n .non := by simp [Bel]
@[simp] theorem bel_bl {b : Bool} : Bel n (.bl b) := by simp [Bel]
@[simp] theorem bel_int {i : Int} : Bel n (.int i) := by simp [Bel]
@[simp] theorem bel_str {l : List Nat} : Bel n (.str l) := by simp [Bel]
@[simp] theorem bel_cst {l : V} : Bel n (.cst l) := by simp [Bel]
@[simp] theorem bel_scr {l : List Int} : Bel n (.scr l) := by simp [Bel]
@[simp] theorem bel_obj {l : Nat} : Bel n (.obj l) ↔ l < n := by simp [Bel]
@[simp] theorem bel_lst {l : List T} : Bel n (.lst l) ↔ Bels n l := by simp [Bel]
@[simp] theorem bel_tup {l : List T} : Bel n (.tup l) ↔ Bels n l := by simp [Bel]
@[simp] theorem bel_dct {l : List (TK × T)} : Bel n (.dct l) ↔ Beld n l := by simp [Bel]
@[simp] theorem bel_ins {C : String} {l : List (String × T)} : Bel n (.ins C l) ↔ Belf n l := by simp [Bel]
@[simp] theorem bel_exc {a dd : Addr} {C : String} {l : List (String × T)} : Bel n (.exc a dd C l) ↔ Belf n l := by simp [Bel]
@[simp] theorem bel_kr {k : Nat} {R : Gh → Hp → V → Prop} : Bel n (.kr k R) ↔ k ≤ n := by simp [Bel]
@[simp] theorem bels_nil : Bels n [] := by simp [Bels]
@[simp] theorem bels_cons {t : T} {l : List T} : Bels n (t :: l) ↔ Bel n t ∧ Bels n l := by simp [Bels]
@[simp] theorem beld_nil : Beld n [] := by simp [Beld]
@[simp] theorem beld_cons {k : TK} {t : T} {l : List (TK × T)} : Beld n ((k, t) :: l) ↔ Bel n t ∧ Beld n l := by simp [Beld]
@[simp] theorem belf_nil : Belf n [] := by simp [Belf]
@[simp] theorem belf_cons {k : String} {t : T} {l : List (String × T)} : Belf n ((k, t) :: l) ↔ Bel n t ∧ Belf n l := by simp [Belf]
theorem bels_all : ∀ {l : List T}, Bels n l ↔ ∀ t ∈ l, Bel n t
  | [] => by simp
  | t :: l => by rw [bels_cons, bels_all]; simp
@[simp] theorem bels_strs {α : Type} {f : α → List Nat} : ∀ {l : List α}, Bels n (l.map fun x => T.str (f x)) := fun {l} => bels_all.mpr fun t h => by
  obtain ⟨x, _, rfl⟩ := List.mem_map.mp h; exact bel_str
@[simp] theorem bels_strs' {l : List (List Nat)} : Bels n (l.map T.str) := bels_all.mpr fun t h => by
  obtain ⟨x, _, rfl⟩ := List.mem_map.mp h; exact bel_str
@[simp] theorem bels_ints {α : Type} {f : α → Int} : ∀ {l : List α}, Bels n (l.map fun x => T.int (f x)) := fun {l} => bels_all.mpr fun t h => by
  obtain ⟨x, _, rfl⟩ := List.mem_map.mp h; exact bel_int
@[simp] theorem bels_app {l r : List T} : Bels n (l ++ r) ↔ Bels n l ∧ Bels n r := by
  simp only [bels_all, List.mem_append]
  exact ⟨fun h => ⟨fun t z => h t (.inl z), fun t z => h t (.inr z)⟩, fun h t z => z.elim (h.1 t) (h.2 t)⟩
variable {Γ : Gm} {G G' : Gh} {H H' : Hp} {v : V}
mutual
theorem VR.bel : ∀ {t : T} {v : V}, VR Γ G H t v → Bel G.rho.length t
  | .non, v, h => bel_non
  | .bl b, v, h => bel_bl
  | .int i, v, h => bel_int
  | .str l, v, h => bel_str
  | .cst c, v, h => bel_cst
  | .scr c, v, h => bel_scr
  | .obj n, v, h => let ⟨a, e, z⟩ := vr_obj.mp h; bel_obj.mpr (List.getElem?_eq_some_iff.mp z).1
  | .lst ts, v, h => by obtain ⟨a, us, e, _, z, r⟩ := vr_lst.mp h; exact bel_lst.mpr (VRs.bel r)
  | .tup ts, v, h => by obtain ⟨a, us, e, z, r⟩ := vr_tup.mp h; exact bel_tup.mpr (VRs.bel r)
  | .dct ts, v, h => by obtain ⟨a, us, e, n, z, r⟩ := vr_dct.mp h; exact bel_dct.mpr (VRd.bel r)
  | .ins C fs, v, h => by obtain ⟨a, dx, us, e, n, z, k, r⟩ := vr_ins.mp h; exact bel_ins.mpr (VRf.bel r)
  | .exc a dd C fs, v, h => by obtain ⟨e, n, us, z, r⟩ := vr_exc.mp h; exact bel_exc.mpr (VRf.bel r)
  | .kr k R, v, h => bel_kr.mpr (vr_kr.mp h).1
theorem VRs.bel : ∀ {ts : List T} {us : List V}, VRs Γ G H ts us → Bels G.rho.length ts
  | [], us, h => bels_nil
  | t :: ts, us, h => let ⟨v, r, e, h1, h2⟩ := vrs_cons.mp h; bels_cons.mpr ⟨VR.bel h1, VRs.bel h2⟩
theorem VRd.bel : ∀ {ts : List (TK × T)} {us : List (Key × V)}, VRd Γ G H ts us → Beld G.rho.length ts
  | [], us, h => beld_nil
  | (k, t) :: ts, us, h => let ⟨v, r, e, h1, h2⟩ := vrd_cons.mp h; beld_cons.mpr ⟨VR.bel h1, VRd.bel h2⟩
theorem VRf.bel : ∀ {ts : List (String × T)} {us : List (Str × V)}, VRf Γ G H ts us → Belf G.rho.length ts
  | [], us, h => belf_nil
  | (k, t) :: ts, us, h => let ⟨v, r, e, h1, h2⟩ := vrf_cons.mp h; belf_cons.mpr ⟨VR.bel h1, VRf.bel h2⟩
end
/-- the cells from n on are given up -/
structure Cut (n : Nat) (G : Gh) (G' : Gh) : Prop where
  rho : G'.rho = G.rho.take n
  hot : ∀ a, G'.hot a → G.hot a
mutual
theorem VR.cut (g : Cut n G G') : ∀ {t : T} {v : V}, Bel n t → VR Γ G H t v → VR Γ G' H t v
  | .non, v, b, h => vr_non.mpr (vr_non.mp h)
  | .bl b, v, _, h => vr_bl.mpr (vr_bl.mp h)
  | .int i, v, b, h => vr_int.mpr (vr_int.mp h)
  | .str l, v, b, h => vr_str.mpr (vr_str.mp h)
  | .cst c, v, b, h => vr_cst.mpr (vr_cst.mp h)
  | .obj k, v, b, h => let ⟨a, e, z⟩ := vr_obj.mp h; vr_obj.mpr ⟨a, e, by rw [g.rho, List.getElem?_take_of_lt (bel_obj.mp b)]; exact z⟩
  | .scr ns, v, b, h => by
    obtain ⟨a, e, z⟩ := vr_scr.mp h
    exact vr_scr.mpr ⟨a, e, z.imp (fun z => ⟨fun y => z.1 (g.hot a y), z.2⟩) id⟩
  | .lst ts, v, b, h => by
    obtain ⟨a, us, e, n, z, r⟩ := vr_lst.mp h
    exact vr_lst.mpr ⟨a, us, e, fun y => n (g.hot a y), z, VRs.cut g (bel_lst.mp b) r⟩
  | .tup ts, v, b, h => by
    obtain ⟨a, us, e, z, r⟩ := vr_tup.mp h
    exact vr_tup.mpr ⟨a, us, e, z.imp (fun z => ⟨fun y => z.1 (g.hot a y), z.2⟩) id, VRs.cut g (bel_tup.mp b) r⟩
  | .dct ts, v, b, h => by
    obtain ⟨a, us, e, n, z, r⟩ := vr_dct.mp h
    exact vr_dct.mpr ⟨a, us, e, fun y => n (g.hot a y), z, VRd.cut g (bel_dct.mp b) r⟩
  | .ins C fs, v, b, h => by
    obtain ⟨a, dx, us, e, n, z, k, r⟩ := vr_ins.mp h
    exact vr_ins.mpr ⟨a, dx, us, e, fun y => n (g.hot a y), z, k, VRf.cut g (bel_ins.mp b) r⟩
  | .exc a dd C fs, v, b, h => by
    obtain ⟨e, n, us, z, r⟩ := vr_exc.mp h
    exact vr_exc.mpr ⟨e, fun y => n (g.hot dd y), us, z, VRf.cut g (bel_exc.mp b) r⟩
  | .kr k R, v, b, h => by
    obtain ⟨l, G0, H0, r, l0, g0⟩ := vr_kr.mp h
    have b := bel_kr.mp b
    refine vr_kr.mpr ⟨by rw [g.rho, List.length_take]; omega, G0, H0, r, l0, ⟨?_, fun a o n z => ⟨(g0.keep a o n z).1, fun y => (g0.keep a o n z).2 (g.hot a y)⟩⟩⟩
    rw [g.rho]
    obtain ⟨t, e⟩ := g0.pre
    rw [← e, List.take_append]
    rw [List.take_of_length_le (by omega)]
    exact List.prefix_append _ _
theorem VRs.cut (g : Cut n G G') : ∀ {ts : List T} {us : List V}, Bels n ts → VRs Γ G H ts us → VRs Γ G' H ts us
  | [], us, b, h => vrs_nil.mpr (vrs_nil.mp h)
  | t :: ts, us, b, h => let ⟨v, r, e, h1, h2⟩ := vrs_cons.mp h; vrs_cons.mpr ⟨v, r, e, VR.cut g (bels_cons.mp b).1 h1, VRs.cut g (bels_cons.mp b).2 h2⟩
theorem VRd.cut (g : Cut n G G') : ∀ {ts : List (TK × T)} {us : List (Key × V)}, Beld n ts → VRd Γ G H ts us → VRd Γ G' H ts us
  | [], us, b, h => vrd_nil.mpr (vrd_nil.mp h)
  | (k, t) :: ts, us, b, h => let ⟨v, r, e, h1, h2⟩ := vrd_cons.mp h; vrd_cons.mpr ⟨v, r, e, VR.cut g (beld_cons.mp b).1 h1, VRd.cut g (beld_cons.mp b).2 h2⟩
theorem VRf.cut (g : Cut n G G') : ∀ {ts : List (String × T)} {us : List (Str × V)}, Belf n ts → VRf Γ G H ts us → VRf Γ G' H ts us
  | [], us, b, h => vrf_nil.mpr (vrf_nil.mp h)
  | (k, t) :: ts, us, b, h => let ⟨v, r, e, h1, h2⟩ := vrf_cons.mp h; vrf_cons.mpr ⟨v, r, e, VR.cut g (belf_cons.mp b).1 h1, VRf.cut g (belf_cons.mp b).2 h2⟩
end
def BelC (n : Nat) : Cell → Prop
  | .lst ts => Bels n ts
  | .dct ts => Beld n ts
  | .ins _ ts => Belf n ts
  | .pot => True
  | .tab _ _ => True
theorem CR.bel {a : Addr} {c : Cell} (h : CR Γ G H a c) : BelC G.rho.length c := by
  cases c with
  | lst ts => obtain ⟨us, _, h2⟩ := h; exact h2.bel
  | dct ts => obtain ⟨us, _, h2⟩ := h; exact h2.bel
  | ins C fs => obtain ⟨dx, us, _, _, h3⟩ := h; exact h3.bel
  | pot => trivial
  | tab x q => trivial
theorem CR.cut (g : Cut n G G') {a : Addr} {c : Cell} (b : BelC n c) (h : CR Γ G H a c) : CR Γ G' H a c := by
  cases c with
  | lst ts => obtain ⟨us, h1, h2⟩ := h; exact ⟨us, h1, h2.cut g b⟩
  | dct ts => obtain ⟨us, h1, h2⟩ := h; exact ⟨us, h1, h2.cut g b⟩
  | ins C fs => obtain ⟨dx, us, h1, h2, h3⟩ := h; exact ⟨dx, us, h1, h2, h3.cut g b⟩
  | pot => exact h
  | tab x q => exact ⟨h.1, h.2.1, fun c hc y => h.2.2 c hc (g.hot c y)⟩
/-- the cells behind m are given up -/
theorem MR.cut {m g : Mem} {G0 : Gh} {H0 : Hp} (r0 : MR Γ G0 m H0) (s : Stp G0 H0 G H) (r : MR Γ G (m ++ g) H) : MR Γ ⟨G0.rho, G.ow, G.up⟩ m H ∧ Cut m.length G ⟨G0.rho, G.ow, G.up⟩ ∧ Stp G0 H0 ⟨G0.rho, G.ow, G.up⟩ H := by
  have er : G.rho.take m.length = G0.rho := by
    obtain ⟨e, he⟩ := s.pre
    rw [← he, r0.len, List.take_left]
  have cut : Cut m.length G ⟨G0.rho, G.ow, G.up⟩ := ⟨er.symm, fun a z => by
    rw [hot_iff] at z ⊢
    rcases z with z | z | z
    · exact .inl (s.pre.subset z)
    · exact .inr (.inl z)
    · exact .inr (.inr z)⟩
  refine ⟨⟨r0.len, fun k c a e1 e2 => ?_, ?_, fun a z => r.live a (cut.hot a z)⟩, cut, ⟨s.ow, s.up, List.prefix_refl _, s.fr, fun a z => .inl z⟩⟩
  · have hk : k < m.length := (List.getElem?_eq_some_iff.mp e1).1
    have b : BelC m.length c := by rw [r0.len]; exact (r0.cell k c a e1 e2).bel
    refine (r.cell k c a ?_ ?_).cut cut b
    · rw [List.getElem?_append_left hk]; exact e1
    · exact pre_get s.pre e2
  · have nd := r.nd
    unfold Gh.all at nd ⊢
    refine nd.sublist ?_
    exact List.Sublist.append_right (List.Sublist.append_right s.pre.sublist _) _
end
/-- a def whose new cells are of no use behind it -/
def fDrop (F : AF) : AF := fun ts m P Fx => F ts m (fun t m' => ∃ g, m' = m ++ g ∧ Bel 0 t ∧ P t m) (fun x m' => ∃ g, m' = m ++ g ∧ Belf 0 x.2 ∧ Fx x m)
theorem Bel.mono {n k : Nat} (h : n ≤ k) : ∀ {t : T}, Bel n t → Bel k t := fun {t} b => by
  revert b
  refine T.rec (motive_1 := fun t => Bel n t → Bel k t) (motive_2 := fun ts => Bels n ts → Bels k ts) (motive_3 := fun ts => Beld n ts → Beld k ts) (motive_4 := fun ts => Belf n ts → Belf k ts) (motive_5 := fun p => Bel n p.2 → Bel k p.2) (motive_6 := fun p => Bel n p.2 → Bel k p.2)
    ?_ ?_ ?_ ?_ ?_ ?_ ?_ ?_ ?_ ?_ ?_ ?_ ?_ ?_ ?_ ?_ ?_ ?_ ?_ ?_ ?_ t
  all_goals first | (intros; simp; done) | skip
  · intro xs ih b; exact bel_lst.mpr (ih (bel_lst.mp b))
  · intro xs ih b; exact bel_tup.mpr (ih (bel_tup.mp b))
  · intro xs ih b; exact bel_dct.mpr (ih (bel_dct.mp b))
  · intro C xs ih b; exact bel_ins.mpr (ih (bel_ins.mp b))
  · intro i b; exact bel_obj.mpr (Nat.lt_of_lt_of_le (bel_obj.mp b) h)
  · intro i R b; exact bel_kr.mpr (Nat.le_trans (bel_kr.mp b) h)
  · intro a dd C xs ih b; exact bel_exc.mpr (ih (bel_exc.mp b))
  · intro x xs h1 h2 b; exact bels_cons.mpr ⟨h1 (bels_cons.mp b).1, h2 (bels_cons.mp b).2⟩
  · intro x xs h1 h2 b; exact beld_cons.mpr ⟨h1 (beld_cons.mp b).1, h2 (beld_cons.mp b).2⟩
  · intro x xs h1 h2 b; exact belf_cons.mpr ⟨h1 (belf_cons.mp b).1, h2 (belf_cons.mp b).2⟩
  · intro a b ih; exact ih
  · intro a b ih; exact ih
theorem Belf.mono {n k : Nat} (h : n ≤ k) : ∀ {ts : List (String × T)}, Belf n ts → Belf k ts
  | [], _ => belf_nil
  | (_, t) :: ts, b => belf_cons.mpr ⟨(belf_cons.mp b).1.mono h, Belf.mono h (belf_cons.mp b).2⟩
theorem Fa.drop {gd md : Bool} {P : Program} {w : World} {K : PySem.W.Frag} {mg : Str → Option Value} {base : Heap} {cls : List String} {k : Nat} {f : Addr} {fd : FuncData} {ps : List Str} {F : AF} (h : Fa gd md P w K mg base cls k f fd ps F) : Fa gd md P w K mg base cls k f fd ps (fDrop F) :=
  ⟨fun A outer s H args us vs Q E hg hr e b r ⟨l, G, ts, m, P, Fx, mr, ow, vr, hf, k1, k2⟩ => h.run A outer s H args us vs Q E hg hr e b r ⟨l, G, ts, m, _, _, mr, ow, vr, hf, fun t m' G' v H' ⟨g, e, b, p⟩ s r vv => by
      subst e
      obtain ⟨r1, c, s1⟩ := mr.cut s r
      exact k1 t m _ v H' p s1 r1 (vv.cut c (b.mono (Nat.zero_le _))), fun x m' G' H' cl d ⟨g, e, b, p⟩ s r xr => by
      subst e
      obtain ⟨r1, c, s1⟩ := mr.cut s r
      obtain ⟨e1, dd, us, e2, n, e3, e4⟩ := xr
      exact k2 x m _ H' cl d p s1 r1 ⟨e1, dd, us, e2, fun y => n (c.hot dd y), e3, e4.cut c (b.mono (Nat.zero_le _))⟩⟩⟩
/-! ## methods, instances -/
@[simp] def clsIs (m : Mem) (t : T) (C : String) : Prop := (asI m t).map (·.1) = some C
@[simp] def aMeth (C : String) (F : AF) (dts : List T) (a : AE) (l : AA) : AE := fun z m P Fx => a z m (fun o m1 => clsIs m1 o C ∧ l z m1 (fun ts m2 => F (o :: ts ++ dts) m2 P Fx) Fx) Fx
@[simp] def aFld (f : String) (a : AE) : AE := fun z m P Fx => a z m (fun o m1 => match asI m1 o with | some (_, fs) => (match fs.lookup f with | some t => P t m1 | none => False) | none => False) Fx
structure MetA (gd md : Bool) (P : Program) (w : World) (K : PySem.W.Frag) (mg : Str → Option Value) (base : Heap) (cls : List String) (k : Nat) (C : String) (m : Str) (dts : List T) (n : Nat) (F : AF) : Prop where
  ex : ∃ (f : Addr) (fd : FuncData) (ps : List Str) (ds : List Value) (dvs : List V), Meth K (ga K C) m f ∧ Fa gd md P w K mg base cls k f fd ps F ∧ ps.length = 1 + n + dts.length ∧ Binds K fd ps ds ∧ Vals dvs ds ∧ ∀ G H, VRs ⟨K, cls⟩ G H dts dvs
theorem MetA.imp {gd md : Bool} {P : Program} {w : World} {K : PySem.W.Frag} {mg : Str → Option Value} {base : Heap} {cls : List String} {k n : Nat} {C : String} {m : Str} {dts : List T} {F F' : AF} (h : MetA gd md P w K mg base cls k C m dts n F) (hi : ∀ ts m P Fx, F' ts m P Fx → F ts m P Fx) : MetA gd md P w K mg base cls k C m dts n F' :=
  let ⟨f, fd, ps, ds, dvs, h0, h1, r⟩ := h.ex; ⟨f, fd, ps, ds, dvs, h0, h1.imp hi, r⟩
section
variable {Γ : Gm} {G G' : Gh} {H H' : Hp} {v : V}
theorem VRf.keys : ∀ {ts : List (String × T)} {us : List (Str × V)}, VRf Γ G H ts us → us.map (·.1) = ts.map fun p => PySem.Str.ofString p.1
  | [], us, h => by rw [vrf_nil.mp h]; rfl
  | (k, t) :: ts, us, h => by
    obtain ⟨v, r, rfl, _, h2⟩ := vrf_cons.mp h
    rw [List.map_cons, List.map_cons, h2.keys]
theorem look_none {us : List (Str × V)} {m : Str} (h : m ∉ us.map (·.1)) : us.lookup m = none := by
  rw [List.lookup_eq_none_iff]
  intro p hp
  rw [bne_iff_ne]
  exact fun z => h (List.mem_map.mpr ⟨p, hp, z.symm⟩)
theorem InsK.nometh {C : String} {m : Str} {f : Addr} {fs : List (String × T)} {us : List (Str × V)} (k : InsK Γ C fs) (hm : PySem.W.findIn Γ.K (.ref (ga Γ.K C)) m ≠ some none) (h : VRf Γ G H fs us) : us.lookup m = none := look_none fun z => by
  rw [h.keys] at z
  obtain ⟨p, hp, e⟩ := List.mem_map.mp z
  have := k.na p hp
  unfold NoAttr at this
  rw [e] at this
  exact hm this
end
section
variable {gd md : Bool} {c : Cl} {X : Cx} {k j n : Nat} {C : String} {F : AF} {dts : List T} {x m : Str} {p pos apos : Pos} {e o : Expr} {es : List Expr} {a b : AE} {l : AA}
theorem meth_found {K : PySem.W.Frag} {C f : Addr} (h : Meth K C m f) : PySem.W.findIn K (.ref C) m ≠ some none := by
  have := h.at_
  intro z
  first | (rw [z] at this; cases this) | (simp_all)
theorem se_meth {pl : Sem Bool} (h : MetA gd md X.prog X.w X.K X.mg X.base c.cls k C m dts n F) (hg : gd = true → X.A.guards = some []) (hr : Room j X.A) (hk : k ≤ j) (tk : Pas md X c.W) (ho : SE c X o a) (ha : SA c X (e :: es) l) (hn : (e :: es).length = n := by rfl)
    (hst : starEach (e :: es) X.env = (false, eval e X.env) :: starEach es X.env := by rfl) (hpl : (backTo pos (starEach es X.env)).any (·.1) = false := by rfl)
    (ht : eval (.Call (.Attribute o m apos) (e :: es) [] pos) X.env = (do
      let ov ← eval o X.env
      standAt apos.atName
      let (f, first) ← holding [ov] (getMethod ov m pl)
      callWith pos f first (backTo pos (starEach (e :: es) X.env)) (backToKw pos (keywordEach [] X.env))) := by rfl) :
    SE c X (.Call (.Attribute o m apos) (e :: es) [] pos) (aMeth C F dts a l) := by
  obtain ⟨f, fd, ps, ds, dvs, hm, h1, hlen, b, d, vd⟩ := h.ex
  refine ⟨fun pins s σ H Q I hq => ?_⟩
  obtain ⟨G, z, m0, P, Fx, mr, sr, hl, kk⟩ := hq
  refine PySem.W.methodCall_KW (pl := pl) (thn (ho.run pins s σ H (fun x H1 => ∃ (a : Addr) (dx : Addr) (us : List (Str × V)), x = .ref a ∧ H1 a = some (.ins (ga X.K C) dx us) ∧ Cls X.K (ga X.K C) ∧ us.lookup m = none ∧
    rOf (fun G H ts us => VRs (go X c.cls) G H ts us ∧ us.length = (e :: es).length) (go X c.cls) c.W l σ H1 fun vs H2 => spA (go X c.cls) ps.length F (.ref a :: (vs ++ dvs)) H2 Q (fun cl d H => c.W cl d σ H)) I ?_) fun u s1 ⟨x, H1, I1, rx, a, dx, us, ex, ea, cl, lk, q⟩ => ?_) ht
  · refine ⟨G, z, m0, _, Fx, mr, sr, hl, kk.mv Stp.refl fun o1 m1 G1 v1 H1 p1 s1 r1 b1 => ?_⟩
    obtain ⟨hc, p1⟩ := p1
    obtain ⟨⟨C', fs⟩, e1, e2⟩ := Option.map_eq_some_iff.mp hc
    cases (show C' = C from e2)
    obtain ⟨a, dx, us, rfl, ha, ik, vf⟩ := rdI r1 (.inl b1) e1
    refine ⟨a, dx, us, rfl, ha, ik.cl, ik.nometh (f := f) (meth_found hm) vf, G1, z, m1, _, Fx, r1, sr.step mr.nd s1, p1, kk.mv s1 fun ts m2 G2 vs H2 p2 s2 r2 v2 => ?_⟩
    refine call_sp (by rw [List.length_cons, List.length_append, v2.2, hn, hlen, ← (vd G2 H2).length]; omega) kk (s1.trans s2) r2 ?_ p2
    exact vrs_cons.mpr ⟨_, _, rfl, s2.vr b1, v2.1.app (vd G2 H2)⟩
  · subst ex
    obtain rfl : u = Value.ref a := rx
    refine getmeth_ok I1 ea cl hm lk ?_
    refine PySem.W.callWith_K (first := [.ref a]) (h₀ := X.base) I.ok.mod.kin hm.kp (thn (ha.run pos pins s1 σ H1 _ I1 q) fun us s2 ⟨vs, H2, I2, r, q2⟩ => ⟨I2.kIn, ?_⟩) hst hpl
    exact runA (us := .ref a :: us) (vs := .ref a :: vs) h1 hg (hr.mono hk) tk b d I2 (.cons rfl r) q2
theorem se_meth0 {pl : Sem Bool} (h : MetA gd md X.prog X.w X.K X.mg X.base c.cls k C m dts 0 F) (hg : gd = true → X.A.guards = some []) (hr : Room j X.A) (hk : k ≤ j) (tk : Pas md X c.W) (ho : SE c X o a)
    (ht : eval (.Call (.Attribute o m apos) [] [] pos) X.env = (do
      let ov ← eval o X.env
      standAt apos.atName
      let (f, first) ← holding [ov] (getMethod ov m pl)
      callWith pos f first (backTo pos (starEach [] X.env)) (backToKw pos (keywordEach [] X.env))) := by rfl) :
    SE c X (.Call (.Attribute o m apos) [] [] pos) (aMeth C F dts a aNil) := by
  obtain ⟨f, fd, ps, ds, dvs, hm, h1, hlen, b, d, vd⟩ := h.ex
  refine ⟨fun pins s σ H Q I hq => ?_⟩
  obtain ⟨G, z, m0, P, Fx, mr, sr, hl, kk⟩ := hq
  refine PySem.W.methodCall_KW (pl := pl) (thn (ho.run pins s σ H (fun x H1 => ∃ (a : Addr) (dx : Addr) (us : List (Str × V)), x = .ref a ∧ H1 a = some (.ins (ga X.K C) dx us) ∧ Cls X.K (ga X.K C) ∧ us.lookup m = none ∧
    spA (go X c.cls) ps.length F (.ref a :: dvs) H1 Q (fun cl d H => c.W cl d σ H)) I ?_) fun u s1 ⟨x, H1, I1, rx, a, dx, us, ex, ea, cl, lk, q⟩ => ?_) ht
  · refine ⟨G, z, m0, _, Fx, mr, sr, hl, kk.mv Stp.refl fun o1 m1 G1 v1 H1 p1 s1 r1 b1 => ?_⟩
    obtain ⟨hc, p1⟩ := p1
    obtain ⟨⟨C', fs⟩, e1, e2⟩ := Option.map_eq_some_iff.mp hc
    cases (show C' = C from e2)
    obtain ⟨a, dx, us, rfl, ha, ik, vf⟩ := rdI r1 (.inl b1) e1
    refine ⟨a, dx, us, rfl, ha, ik.cl, ik.nometh (f := f) (meth_found hm) vf, ?_⟩
    refine call_sp (by rw [List.length_cons, hlen, ← (vd G1 H1).length]; omega) kk s1 r1 ?_ p1
    exact vrs_cons.mpr ⟨_, _, rfl, b1, vd G1 H1⟩
  · subst ex
    obtain rfl : u = Value.ref a := rx
    refine getmeth_ok I1 ea cl hm lk ?_
    exact PySem.W.callWith_K0 (first := [.ref a]) I1.kIn hm.kp (runA (us := [.ref a]) (vs := [.ref a]) h1 hg (hr.mono hk) tk b d I1 (.cons rfl .nil) q)
theorem se_call0 (h : CalA gd md X.prog X.w X.K X.mg X.base c.cls k x dts 0 F) (hg : gd = true → X.A.guards = some []) (hr : Room j X.A) (hk : k ≤ j) (tk : Pas md X c.W) (hgl : Gl X x) (hdb : (x == ("__debug__" : Str)) = false := by decide) :
    SE c X (.Call (.Name x p) [] [] pos) (aCall F dts aNil) := by
  obtain ⟨f, fd, ps, ds, dvs, h1, hlen, hm, kp, b, d, vd⟩ := h.ex
  refine ⟨fun pins s σ H Q I hq => ?_⟩
  obtain ⟨G, z, m, P, Fx, mr, sr, hl, kk⟩ := hq
  refine wpAny_Call_Name_kw (ld_glob I hgl hm (PySem.W.callWith_K0 I.kIn kp (runA (us := []) (vs := []) h1 hg (hr.mono hk) tk b d I .nil ?_)) hdb)
  exact call_sp (by rw [List.nil_append, hlen, ← (vd G H).length]; simp) kk Stp.refl mr (vd G H) hl
theorem se_fld {f : String} (ho : SE c X o a) (hb : attributeBase o (PySem.Str.ofString f) X.env (eval o X.env) = eval o X.env := by rfl) : SE c X (.Attribute o (PySem.Str.ofString f) pos) (aFld f a) :=
  pe_weak (pe_fld ho hb) fun σ H Q ⟨G, z, m, P, F, mr, sr, h, k⟩ => ⟨G, z, m, _, F, mr, sr, h, k.mv Stp.refl fun o1 m1 G1 v1 H1 p1 s1 r1 b1 => by
    split at p1
    · rename_i C fs e1
      split at p1
      · rename_i t e2
        obtain ⟨a, dx, us, rfl, ha, ik, vf⟩ := rdI r1 (.inl b1) e1
        obtain ⟨v, e3, e4⟩ := vf.look e2
        have : (f, t) ∈ fs ∨ True := .inr trivial
        refine ⟨a, _, dx, us, v, rfl, ha, ik.cl, ?_, e3, k.ok t m1 G1 v H1 p1 s1 r1 e4⟩
        have hm : f ∈ fs.map (·.1) := by
          by_cases hc : f ∈ fs.map (·.1)
          · exact hc
          · have : fs.lookup f = none := by
              rw [List.lookup_eq_none_iff]
              intro q hq
              rw [bne_iff_ne]
              exact fun y => hc (List.mem_map.mpr ⟨q, hq, y.symm⟩)
            rw [this] at e2; cases e2
        obtain ⟨q, hq, e⟩ := List.mem_map.mp hm
        rw [← e]
        exact ik.na q hq
      · exact p1.elim
    · exact p1.elim⟩
end
end AM
set_option maxHeartbeats 4000000
namespace AM
open PySem PySem.Spec PyProof.Rows L2 Eb
/-! ## making instances -/
structure MakA (gd md : Bool) (P : Program) (w : World) (K : PySem.W.Frag) (mg : Str → Option Value) (base : Heap) (cls : List String) (k : Nat) (C : String) (dts : List T) (n : Nat) (F : AF) : Prop where
  ex : ∃ (f : Addr) (fd : FuncData) (ps : List Str) (ds : List Value) (dvs : List V), Mk K (ga K C) f ∧ Fa gd md P w K mg base cls k f fd ps F ∧ ps.length = 1 + n + dts.length ∧ mg (PySem.Str.ofString C) = some (.ref (ga K C)) ∧ Binds K fd ps ds ∧ Vals dvs ds ∧ (∀ G H, VRs ⟨K, cls⟩ G H dts dvs) ∧ InsK ⟨K, cls⟩ C []
theorem MakA.imp {gd md : Bool} {P : Program} {w : World} {K : PySem.W.Frag} {mg : Str → Option Value} {base : Heap} {cls : List String} {k n : Nat} {C : String} {dts : List T} {F F' : AF} (h : MakA gd md P w K mg base cls k C dts n F) (hi : ∀ ts m P Fx, F' ts m P Fx → F ts m P Fx) : MakA gd md P w K mg base cls k C dts n F' :=
  let ⟨f, fd, ps, ds, dvs, h0, h1, r⟩ := h.ex; ⟨f, fd, ps, ds, dvs, h0, h1.imp hi, r⟩
@[simp] def aMake (C : String) (F : AF) (dts : List T) (l : AA) : AE := fun z m P Fx => l z m (fun ts m1 => F (.obj m1.length :: ts ++ dts) (m1 ++ [.ins C []]) (fun t m2 => t = .non ∧ P (.obj m1.length) m2) Fx) Fx
/-- .. that stands still from then on -/
@[simp] def aMakeF (C : String) (F : AF) (dts : List T) (l : AA) : AE := fun z m P Fx => l z m (fun ts m1 => F (.obj m1.length :: ts ++ dts) (m1 ++ [.ins C []]) (fun t m2 => t = .non ∧ ∃ fs, m2 = m1 ++ [.ins C fs] ∧ Belf 0 fs ∧ P (.ins C fs) m1) Fx) Fx
section
variable {gd md : Bool} {c : Cl} {X : Cx} {k j n : Nat} {C : String} {F : AF} {dts : List T} {dvs : List V} {ds : List Value} {ps : List Str} {f : Addr} {fd : FuncData} {x m : Str} {p pos apos : Pos} {e o : Expr} {es : List Expr} {a b : AE} {l : AA}
theorem runMake {pins : List (Addr × Obj)} {σ : L2.St} {H : Hp} {s : Shared} {Q : VK} {us : List Value} {vs : List V} {C : Addr} (M : Mk X.K C f) (h : Fa gd md X.prog X.w X.K X.mg X.base c.cls k f fd ps F) (hg : gd = true → X.A.guards = some []) (hr : Room (k + 1) X.A) (tk : Pas md X c.W) (hb : Binds X.K fd ps ds) (hd : Vals dvs ds)
    (I : Inv X pins σ H s) (r : Vals vs us)
    (hs : ∀ x dx, H x = none → H dx = none → dx ≠ x → spA (go X c.cls) ps.length F (.ref x :: (vs ++ dvs)) (upd (upd H dx (.own x)) x (.ins C dx [])) (fun v H2 => v = .non ∧ Q (.ref x) H2) (fun cl d H => c.W cl d σ H)) :
    wpAny (model X.prog X.w) X.A (call (.ref C) us) (EP X pins σ Q) X.xe s := by
  have hq := hs (s.heap.objs.size + 1) s.heap.objs.size (I.hok.fresh (Nat.le_succ _)) (I.hok.fresh (Nat.le_refl _)) (Nat.ne_of_lt (Nat.lt_succ_self _))
  have I2 := Inv.made (C := C) I
  have r2 : Vals (V.ref (s.heap.objs.size + 1) :: (vs ++ dvs)) (Value.ref (s.heap.objs.size + 1) :: (us ++ ds)) := .cons rfl (r.append hd)
  have hl : (Value.ref (s.heap.objs.size + 1) :: us ++ ds).length = ps.length := by
    have e := r2.length
    rw [hq.1] at e
    exact e.symm
  have gm : (gd = true → (X.A.under (.builtin "type.__call__" ⟨.ref C :: us, []⟩)).guards = some []) := fun z => by
    have := hg z
    first | exact this | simpa [Around.under, Around.guards] using this
  cases md with
  | true =>
    have tk : Takes X c.W := tk
    refine wpAny_call (make_map (f := f) I.kIn M.makes M.init (beq_iff_eq.mp M.fn) (codeAny_mono (h.run _ X.stack _ _ ⟨Value.ref (s.heap.objs.size + 1) :: us, []⟩ (Value.ref (s.heap.objs.size + 1) :: (us ++ ds)) _ _ (WE c.W σ) gm (hr.make C us [])
      (I2.env0.make C us []) (hb _ (Value.ref (s.heap.objs.size + 1) :: us) I2.kIn hl) r2 hq) fun r s' hq' => ?_))
    cases r with
    | error e => exact passAt tk σ pins _ _ e s' I2 hq'
    | ok fl =>
      cases fl with
      | ret u =>
        obtain ⟨v, H', I3, rv, ev, q3⟩ := I2.after hq'
        subst ev
        exact ⟨rv, ⟨V.ref (s.heap.objs.size + 1), H', I3, rfl, q3⟩⟩
      | next => exact False.elim hq'
      | brk => exact False.elim hq'
      | cont => exact False.elim hq'
  | false =>
    have tk : c.W = noW := tk
    rw [tk] at hq
    refine wpAny_call (make_map (f := f) I.kIn M.makes M.init (beq_iff_eq.mp M.fn) (codeAny_mono (h.run _ X.stack _ _ ⟨Value.ref (s.heap.objs.size + 1) :: us, []⟩ (Value.ref (s.heap.objs.size + 1) :: (us ++ ds)) _ _ noE gm (hr.make C us [])
      (I2.env0.make C us []) (hb _ (Value.ref (s.heap.objs.size + 1) :: us) I2.kIn hl) r2 hq) fun r s' hq' => ?_))
    cases r with
    | error e => exact False.elim hq'
    | ok fl =>
      cases fl with
      | ret u =>
        obtain ⟨v, H', I3, rv, ev, q3⟩ := I2.after hq'
        subst ev
        exact ⟨rv, ⟨V.ref (s.heap.objs.size + 1), H', I3, rfl, q3⟩⟩
      | next => exact False.elim hq'
      | brk => exact False.elim hq'
      | cont => exact False.elim hq'
/-- a new instance as a cell -/
theorem made_mr {Γ : Gm} {G : Gh} {m : Mem} {H : Hp} {x dx : Addr} (r : MR Γ G m H) (nx : H x = none) (nd : H dx = none) (ne : dx ≠ x) (ik : InsK Γ C []) :
    MR Γ ⟨G.rho ++ [x], G.ow, G.up⟩ (m ++ [.ins C []]) (upd (upd H dx (.own x)) x (.ins (ga Γ.K C) dx [])) ∧ Stp G H ⟨G.rho ++ [x], G.ow, G.up⟩ (upd (upd H dx (.own x)) x (.ins (ga Γ.K C) dx [])) ∧ VR Γ ⟨G.rho ++ [x], G.ow, G.up⟩ (upd (upd H dx (.own x)) x (.ins (ga Γ.K C) dx [])) (.obj m.length) (.ref x) := by
  have r1 : MR Γ G m (upd H dx (.own x)) := r.new nd
  have nx' : (upd H dx (.own x)) x = none := by rw [upd_ne ne.symm]; exact nx
  have r2 := up_mr (o := .ins (ga Γ.K C) dx []) r1 nx'
  refine ⟨MR.add (G := ⟨G.rho, G.ow, x :: G.up⟩) (p := x) (up := G.up) r2 rfl ⟨dx, [], upd_same, ik, vrf_nil.mpr rfl⟩, ⟨rfl, rfl, List.prefix_append _ _, fun a o _ e => ?_, fun a z => ?_⟩, vr_obj.mpr ⟨x, rfl, ?_⟩⟩
  · rw [upd_ne (ne_of_none e nx), upd_ne (ne_of_none e nd)]; exact e
  · rcases List.mem_append.mp z with z | z
    · exact .inl z
    · cases List.mem_singleton.mp z; exact .inr nx
  · show (G.rho ++ [x])[m.length]? = some x
    rw [r.len]; simp
theorem make_sp {G G1 : Gh} {H H1 : Hp} {σ : L2.St} {ts : List T} {vs : List V} {m1 : Mem} {P : PX} {Fx : FX} {Q : VK} (hn : (vs ++ dvs).length + 1 = ps.length) (ik : InsK (go X c.cls) C []) (vd : ∀ G H, VRs (go X c.cls) G H dts dvs) (k : Cont (VR (go X c.cls)) (go X c.cls) c.W G H σ P Fx Q) (s1 : Stp G H G1 H1) (r1 : MR (go X c.cls) G1 m1 H1) (v1 : VRs (go X c.cls) G1 H1 ts vs)
    (h : F (.obj m1.length :: ts ++ dts) (m1 ++ [.ins C []]) (fun t m2 => t = .non ∧ P (.obj m1.length) m2) Fx) :
    ∀ x dx, H1 x = none → H1 dx = none → dx ≠ x → spA (go X c.cls) ps.length F (.ref x :: (vs ++ dvs)) (upd (upd H1 dx (.own x)) x (.ins (ga X.K C) dx [])) (fun v H2 => v = .non ∧ Q (.ref x) H2) (fun cl d H => c.W cl d σ H) := by
  intro x dx nx nd ne
  obtain ⟨r2, s2, v2⟩ := made_mr r1 nx nd ne ik
  refine call_sp (G := ⟨G1.rho ++ [x], G1.ow, G1.up⟩) (Q := fun v H2 => v = .non ∧ Q (.ref x) H2) (by rw [List.length_cons]; exact hn) ⟨fun t m' G' v H' p s r vr => ?_, fun x m' G' H' cl d p s r xr => k.ex x m' G' H' cl d p ((s1.trans s2).trans s) r xr⟩ Stp.refl r2 (vrs_cons.mpr ⟨_, _, rfl, v2, (s2.vrs v1).app (vd _ _)⟩) h
  obtain ⟨rfl, p⟩ := p
  exact ⟨vr_non.mp vr, k.ok _ m' G' _ H' p ((s1.trans s2).trans s) r (s.vr v2)⟩
theorem makeF_sp {G G1 : Gh} {H H1 : Hp} {σ : L2.St} {ts : List T} {vs : List V} {m1 : Mem} {P : PX} {Fx : FX} {Q : VK} (hn : (vs ++ dvs).length + 1 = ps.length) (ik : InsK (go X c.cls) C []) (vd : ∀ G H, VRs (go X c.cls) G H dts dvs) (k : Cont (VR (go X c.cls)) (go X c.cls) c.W G H σ P Fx Q) (s1 : Stp G H G1 H1) (r1 : MR (go X c.cls) G1 m1 H1) (v1 : VRs (go X c.cls) G1 H1 ts vs)
    (h : F (.obj m1.length :: ts ++ dts) (m1 ++ [.ins C []]) (fun t m2 => t = .non ∧ ∃ fs, m2 = m1 ++ [.ins C fs] ∧ Belf 0 fs ∧ P (.ins C fs) m1) Fx) :
    ∀ x dx, H1 x = none → H1 dx = none → dx ≠ x → spA (go X c.cls) ps.length F (.ref x :: (vs ++ dvs)) (upd (upd H1 dx (.own x)) x (.ins (ga X.K C) dx [])) (fun v H2 => v = .non ∧ Q (.ref x) H2) (fun cl d H => c.W cl d σ H) := by
  intro x dx nx nd ne
  obtain ⟨r2, s2, v2⟩ := made_mr r1 nx nd ne ik
  refine call_sp (G := ⟨G1.rho ++ [x], G1.ow, G1.up⟩) (Q := fun v H2 => v = .non ∧ Q (.ref x) H2) (by rw [List.length_cons]; exact hn) ⟨fun t m' G' v H' p s r vr => ?_, fun x m' G' H' cl d p s r xr => k.ex x m' G' H' cl d p ((s1.trans s2).trans s) r xr⟩ Stp.refl r2 (vrs_cons.mpr ⟨_, _, rfl, v2, (s2.vrs v1).app (vd _ _)⟩) h
  obtain ⟨rfl, fs, rfl, b, p⟩ := p
  have s12 := s2.trans s
  obtain ⟨r3, cut, s3⟩ := r1.cut s12 r
  have vx := s.vr v2
  obtain ⟨a, ea, er⟩ := vr_obj.mp vx
  cases ea
  have cc := r.cell m1.length (.ins C fs) x (by simp) er
  obtain ⟨dx', us, h1, h2, h3⟩ := cc
  refine ⟨vr_non.mp vr, k.ok _ m1 _ _ H' p (s1.trans s3) r3 (vr_ins.mpr ⟨x, dx', us, rfl, fun hh => ?_, h1, h2, h3.cut cut (b.mono (Nat.zero_le _))⟩)⟩
  have hG : G'.hot x := cut.hot x hh
  have hx : ¬ G1.hot x := r1.cold nx
  apply hx
  rw [hot_iff] at hh ⊢
  have e1 : G'.ow = G1.ow := s12.ow
  have e2 : G'.up = G1.up := s12.up
  rw [← e1, ← e2]
  exact hh
theorem se_make (h : MakA gd md X.prog X.w X.K X.mg X.base c.cls k C dts n F) (hg : gd = true → X.A.guards = some []) (hr : Room j X.A) (hk : k + 1 ≤ j) (tk : Pas md X c.W) (hgl : Gl X (PySem.Str.ofString C)) (ha : SA c X (e :: es) l) (hn : (e :: es).length = n := by rfl)
    (hdb : (PySem.Str.ofString C == ("__debug__" : Str)) = false := by decide) (he : starEach (e :: es) X.env = (false, eval e X.env) :: starEach es X.env := by rfl) (hpl : (backTo pos (starEach es X.env)).any (·.1) = false := by rfl) :
    SE c X (.Call (.Name (PySem.Str.ofString C) p) (e :: es) [] pos) (aMake C F dts l) ∧ SE c X (.Call (.Name (PySem.Str.ofString C) p) (e :: es) [] pos) (aMakeF C F dts l) := by
  obtain ⟨f, fd, ps, ds, dvs, M, h1, hlen, hm, b, d, vd, ik⟩ := h.ex
  have key : ∀ q : AA → AE, (∀ {G G1 : Gh} {H H1 : Hp} {σ : L2.St} {ts : List T} {vs : List V} {m1 : Mem} {P : PX} {Fx : FX} {Q : VK} {z : SS} {m : Mem}, q l z m P Fx → True) → True := fun _ _ => trivial
  constructor
  · refine ⟨fun pins s σ H Q I hq => ?_⟩
    refine wpAny_Call_Name_kw (ld_glob I hgl hm ?_ hdb)
    refine PySem.W.callWith_K (h₀ := X.base) I.ok.mod.kin M.kp (thn (ha.run pos pins s σ H (fun vs H1 => ∀ x dx, H1 x = none → H1 dx = none → dx ≠ x → spA (go X c.cls) ps.length F (.ref x :: (vs ++ dvs)) (upd (upd H1 dx (.own x)) x (.ins (ga X.K C) dx [])) (fun v H2 => v = .non ∧ Q (.ref x) H2) (fun cl d H => c.W cl d σ H)) I ?_)
      fun us s1 ⟨vs, H1, I1, r, q⟩ => ⟨I1.kIn, runMake M h1 hg (hr.mono hk) tk b d I1 r q⟩) he hpl
    obtain ⟨G, z, m, P, Fx, mr, sr, hl, kk⟩ := hq
    exact ⟨G, z, m, _, Fx, mr, sr, hl, kk.mv Stp.refl fun ts m1 G1 vs H1 p1 s1 r1 v1 => make_sp (by rw [List.length_append, v1.2, hn, hlen, ← (vd G1 H1).length]; omega) ik vd kk s1 r1 v1.1 p1⟩
  · refine ⟨fun pins s σ H Q I hq => ?_⟩
    refine wpAny_Call_Name_kw (ld_glob I hgl hm ?_ hdb)
    refine PySem.W.callWith_K (h₀ := X.base) I.ok.mod.kin M.kp (thn (ha.run pos pins s σ H (fun vs H1 => ∀ x dx, H1 x = none → H1 dx = none → dx ≠ x → spA (go X c.cls) ps.length F (.ref x :: (vs ++ dvs)) (upd (upd H1 dx (.own x)) x (.ins (ga X.K C) dx [])) (fun v H2 => v = .non ∧ Q (.ref x) H2) (fun cl d H => c.W cl d σ H)) I ?_)
      fun us s1 ⟨vs, H1, I1, r, q⟩ => ⟨I1.kIn, runMake M h1 hg (hr.mono hk) tk b d I1 r q⟩) he hpl
    obtain ⟨G, z, m, P, Fx, mr, sr, hl, kk⟩ := hq
    exact ⟨G, z, m, _, Fx, mr, sr, hl, kk.mv Stp.refl fun ts m1 G1 vs H1 p1 s1 r1 v1 => makeF_sp (by rw [List.length_append, v1.2, hn, hlen, ← (vd G1 H1).length]; omega) ik vd kk s1 r1 v1.1 p1⟩
theorem se_make0 (h : MakA gd md X.prog X.w X.K X.mg X.base c.cls k C dts 0 F) (hg : gd = true → X.A.guards = some []) (hr : Room j X.A) (hk : k + 1 ≤ j) (tk : Pas md X c.W) (hgl : Gl X (PySem.Str.ofString C)) (hdb : (PySem.Str.ofString C == ("__debug__" : Str)) = false := by decide) :
    SE c X (.Call (.Name (PySem.Str.ofString C) p) [] [] pos) (aMake C F dts aNil) ∧ SE c X (.Call (.Name (PySem.Str.ofString C) p) [] [] pos) (aMakeF C F dts aNil) := by
  obtain ⟨f, fd, ps, ds, dvs, M, h1, hlen, hm, b, d, vd, ik⟩ := h.ex
  constructor
  · refine ⟨fun pins s σ H Q I hq => ?_⟩
    refine wpAny_Call_Name_kw (ld_glob I hgl hm ?_ hdb)
    obtain ⟨G, z, m, P, Fx, mr, sr, hl, kk⟩ := hq
    exact PySem.W.callWith_K0 I.kIn M.kp (runMake (us := []) (vs := []) M h1 hg (hr.mono hk) tk b d I .nil (make_sp (ts := []) (vs := []) (by rw [List.nil_append, hlen, ← (vd G H).length]; omega) ik vd kk Stp.refl mr (vrs_nil.mpr rfl) hl))
  · refine ⟨fun pins s σ H Q I hq => ?_⟩
    refine wpAny_Call_Name_kw (ld_glob I hgl hm ?_ hdb)
    obtain ⟨G, z, m, P, Fx, mr, sr, hl, kk⟩ := hq
    exact PySem.W.callWith_K0 I.kIn M.kp (runMake (us := []) (vs := []) M h1 hg (hr.mono hk) tk b d I .nil (makeF_sp (ts := []) (vs := []) (by rw [List.nil_append, hlen, ← (vd G H).length]; omega) ik vd kk Stp.refl mr (vrs_nil.mpr rfl) hl))
end
/-! ## cells change -/
section
variable {Γ : Gm} {G : Gh} {H : Hp} {m : Mem}
theorem MR.put {n : Nat} {old cl : Cell} {a : Addr} {o : HO} (r : MR Γ G m H) (hn : m[n]? = some old) (ha : G.rho[n]? = some a) (hc : (∀ t v, VR Γ G H t v → VR Γ G (upd H a o) t v) → CR Γ G (upd H a o) a cl) :
    MR Γ G (m.set n cl) (upd H a o) ∧ Stp G H G (upd H a o) := by
  have am : a ∈ G.rho := List.mem_of_getElem? ha
  have st : Stp G H G (upd H a o) := ⟨rfl, rfl, List.prefix_refl _, fun b u nb e => by rw [upd_ne (show b ≠ a from fun z => nb (by rw [z]; exact am))]; exact e, fun b z => .inl z⟩
  have hl : n < m.length := (List.getElem?_eq_some_iff.mp hn).1
  have nd : G.rho.Nodup := by
    have := r.nd
    unfold Gh.all at this
    rw [List.append_assoc] at this
    exact (List.nodup_append.mp this).1
  refine ⟨⟨by simp [r.len], fun k c b e1 e2 => ?_, r.nd, fun b z => ?_⟩, st⟩
  · by_cases hk : n = k
    · subst hk
      rw [List.getElem?_set_self hl] at e1
      cases e1
      rw [ha] at e2
      cases e2
      exact hc fun t v h => st.vr h
    · rw [List.getElem?_set_ne hk] at e1
      have ne : b ≠ a := fun z => by
        subst z
        obtain ⟨h1, h2⟩ := List.getElem?_eq_some_iff.mp ha
        obtain ⟨h3, h4⟩ := List.getElem?_eq_some_iff.mp e2
        exact hk ((List.getElem_inj nd).mp (h2.trans h4.symm))
      exact (r.cell k c b e1 e2).go st.go (upd_ne ne)
  · by_cases hb : b = a
    · rw [hb, upd_same]; simp
    · rw [upd_ne hb]; exact r.live b z
end
theorem put_go {G : Gh} {H : Hp} {a : Addr} {o : HO} (am : a ∈ G.rho) : Go G H G (upd H a o) :=
  ⟨List.prefix_refl _, fun b u n h => ⟨by rw [upd_ne (show b ≠ a from fun z => n (hot_iff.mpr (.inl (by rw [z]; exact am))))]; exact h, n⟩⟩
/-- o.f = e -/
@[simp] def sFldS (cs : List String) (f : String) (o a : AE) : AS := fun D z m => a z m (fun t m1 => o z m1 (fun x m2 => match x with
  | .obj n => (match m2[n]? with | some (.ins C fs) => C ∈ cs ∧ fs.length < 1000 ∧ D.nx z (m2.set n (.ins C (putT f t fs))) | _ => False)
  | _ => False) (D.ex z)) (D.ex z)
/-- as one of several targets -/
@[simp] def gF (cs : List String) (f : String) (o : AE) : AGt := fun t z m P F => o z m (fun x m2 => match x with
  | .obj n => (match m2[n]? with | some (.ins C fs) => C ∈ cs ∧ fs.length < 1000 ∧ P z (m2.set n (.ins C (putT f t fs))) | _ => False)
  | _ => False) (F z)
section
variable {c : Cl} {X : Cx} {C f : String} {cs : List String} {pos pos' : Pos} {e o : Expr} {a b : AE}
theorem fld_put {Γ : Gm} {G : Gh} {H : Hp} {m : Mem} {n : Nat} {C : String} {fs : List (String × T)} {t : T} {v u : V} (hna : NoAttr Γ.K (ga Γ.K C) (PySem.Str.ofString f)) (r : MR Γ G m H) (vx : VR Γ G H (.obj n) v) (e : m[n]? = some (.ins C fs)) (vt : VR Γ G H t u) :
    ∃ a dx us, v = .ref a ∧ H a = some (.ins (ga Γ.K C) dx us) ∧ Cls Γ.K (ga Γ.K C) ∧ us.length = fs.length ∧ MR Γ G (m.set n (.ins C (putT f t fs))) (upd H a (.ins (ga Γ.K C) dx (putF (PySem.Str.ofString f) u us))) ∧ Stp G H G (upd H a (.ins (ga Γ.K C) dx (putF (PySem.Str.ofString f) u us))) := by
  obtain ⟨a, rfl, ha, dx, us, h1, h2, h3⟩ := r.obj vx e
  obtain ⟨q1, q2⟩ := r.put (o := .ins (ga Γ.K C) dx (putF (PySem.Str.ofString f) u us)) (cl := .ins C (putT f t fs)) e ha fun st => ⟨dx, _, upd_same, h2.put hna, VRf.put (st _ _ vt) (h3.go (put_go (List.mem_of_getElem? ha)))⟩
  exact ⟨a, dx, us, rfl, h1, h2.cl, h3.length, q1, q2⟩
theorem s_fldS (hna : ∀ C ∈ cs, C ∈ c.cls → NoAttr X.K (ga X.K C) (PySem.Str.ofString f)) (ho : SE c X o b) (he : SE c X e a) (hs : swapsWith e (some (.Attribute o (PySem.Str.ofString f) pos')) pos.line X.env = pure false := by rfl) :
    S1 c X (.Assign [.Attribute o (PySem.Str.ofString f) pos'] e pos) (sFldS cs f b a) := ps_weak (ps_fld ho he hs) fun E σ H ⟨G, z, m, D, mr, sr, h, k⟩ =>
  ⟨G, z, m, _, _, mr, sr, h, k.ex' mr.nd sr fun t m1 G1 v H1 p1 s1 r1 vt => by
    have k1 := k.step s1.ss mr.nd r1.nd
    have sr1 := sr.step mr.nd s1
    refine ⟨G1, z, m1, _, _, r1, sr1, p1, k1.ex' r1.nd sr1 fun x m2 G2 v2 H2 p2 s2 r2 vx => ?_⟩
    split at p2
    · split at p2
      · rename_i n C fs hx
        obtain ⟨hC, hl, p2⟩ := p2
        obtain ⟨a0, e0, _, dx0, us0, _, ik, _⟩ := r2.obj vx hx
        obtain ⟨a1, dx, us, e1, h1, cl, hl', r3, s3⟩ := fld_put (hna C hC ik.mem) r2 vx hx (s2.vr vt)
        exact ⟨a1, _, dx, us, e1, h1, cl, hna C hC ik.mem, by rw [hl']; exact hl, k1.nx z _ G2 σ _ p2 (s2.trans s3).ss r3 (sr1.step r1.nd (s2.trans s3))⟩
      · exact p2.elim
    · exact p2.elim⟩
theorem sg_fld (hna : ∀ C ∈ cs, C ∈ c.cls → NoAttr X.K (ga X.K C) (PySem.Str.ofString f)) (ho : SE c X o b) : SG c X (.Attribute o (PySem.Str.ofString f) pos) (gF cs f b) := pg_weak (pg_fld ho) fun v σ H Q ⟨G, z, m, t, P, F, mr, sr, vt, h, k⟩ =>
  ⟨G, z, m, _, _, mr, sr, h, ⟨fun x m2 G2 v2 H2 p2 s2 r2 vx => by
    split at p2
    · split at p2
      · rename_i n C fs hx
        obtain ⟨hC, hl, p2⟩ := p2
        obtain ⟨a0, e0, _, dx0, us0, _, ik, _⟩ := r2.obj vx hx
        obtain ⟨a1, dx, us, e1, h1, cl, hl', r3, s3⟩ := fld_put (hna C hC ik.mem) r2 vx hx (s2.vr vt)
        exact ⟨a1, _, dx, us, e1, h1, cl, hna C hC ik.mem, by rw [hl']; exact hl, k.ok z _ G2 σ _ p2 (s2.trans s3).ss r3 (sr.step mr.nd (s2.trans s3))⟩
      · exact p2.elim
    · exact p2.elim, fun x m' G' H' cc d h1 h2 h3 h4 => k.ex z x m' G' σ H' cc d h1 h2.ss h3 (sr.step mr.nd h2) h4⟩⟩
end
end AM
set_option maxHeartbeats 4000000
namespace AM
open PySem PySem.Spec PyProof.Rows L2 Eb
section
variable {Γ : Gm} {G G' : Gh} {H H' : Hp} {v u : V} {m : Mem}
theorem vb_int {i : Int} (h : VB Γ G H (.int i) v) : v = .int i := vr_int.mp (h.atom fun _ z => z)
theorem vb_bl {i : Bool} (h : VB Γ G H (.bl i) v) : v = .bl i := vr_bl.mp (h.atom fun _ z => z)
theorem vb_non (h : VB Γ G H .non v) : v = .non := vr_non.mp (h.atom fun _ z => z)
theorem vb_str {i : List Nat} (h : VB Γ G H (.str i) v) : v = .str (tx i) ∧ SOk i := vr_str.mp (h.atom fun _ z => z)
theorem vb_cst {i : V} (h : VB Γ G H (.cst i) v) : v = i := vr_cst.mp (h.atom fun _ z => z)
theorem vbs1 {t : T} {vs : List V} (h : VBs Γ G H [t] vs) : ∃ v, vs = [v] ∧ VB Γ G H t v := by
  cases h with
  | cons h1 h2 => cases h2; exact ⟨_, rfl, h1⟩
theorem vbs2 {t w : T} {vs : List V} (h : VBs Γ G H [t, w] vs) : ∃ v u, vs = [v, u] ∧ VB Γ G H t v ∧ VB Γ G H w u := by
  cases h with
  | cons h1 h2 =>
    cases h2 with
    | cons h3 h4 => cases h4; exact ⟨_, _, rfl, h1, h3⟩
end
/-! ## numbers -/
/-- a great number, never looked into -/
def bigB : Int := 2 ^ 8000
theorem lt_bigB {j : Int} (h : j < 2 ^ 300) : j < bigB := Int.lt_of_lt_of_le h (by unfold bigB; decide +kernel)
def MulOk (i j : Int) : Prop := CMul i j ∨ CMulX i j
@[simp] def addT : A2 := fun x y m P => match x, y with
  | .int i, .int j => P (.int (i + j)) m
  | .str a, .str b => a.length + b.length ≤ sizeLine ∧ P (.str (a ++ b)) m
  | .tup a, .tup b => a ≠ [] ∧ a.length + b.length ≤ sizeLine ∧ P (.tup (a ++ b)) m
  | x, y => match asX m x, asX m y with
    | some a, some b => a.length + b.length ≤ sizeLine ∧ P (.lst (a ++ b)) m
    | _, _ => False
@[simp] def subT : A2 := fun x y m P => match x, y with | .int i, .int j => P (.int (i - j)) m | _, _ => False
@[simp] def mulT : A2 := fun x y m P => match x, y with
  | .int i, .int j => MulOk i j ∧ P (.int (i * j)) m
  | .str a, .int j => 0 ≤ j ∧ j ≤ 1000 ∧ a.length ≤ 1000 ∧ P (.str (List.replicate j.toNat a).flatten) m
  | x, .int j => (match asX m x with | some a => -(2 ^ 63) ≤ j ∧ j < 2 ^ 63 ∧ a.length * j.toNat ≤ sizeLine ∧ P (.lst (List.replicate j.toNat a).flatten) m | none => False)
  | _, _ => False
@[simp] def modT : A2 := fun x y m P => match x, y with | .int i, .int j => 0 < j ∧ P (.int (i % j)) m | _, _ => False
@[simp] def fdivT : A2 := fun x y m P => match x, y with | .int i, .int j => 0 < j ∧ j < bigB ∧ P (.int (i / j)) m | _, _ => False
@[simp] def powT : A2 := fun x y m P => match x, y with | .int i, .int j => CPow i j ∧ P (.int (i ^ j.toNat)) m | _, _ => False
@[simp] def negT : A1 := fun x m P => match x with | .int i => P (.int (-i)) m | _ => False
@[simp] def ltT : A2 := fun x y m P => match x, y with | .int i, .int j => P (.bl (decide (i < j))) m | .str i, .str j => P (.bl (decide (i < j))) m | _, _ => False
@[simp] def leT : A2 := fun x y m P => match x, y with | .int i, .int j => P (.bl (decide (i ≤ j))) m | _, _ => False
@[simp] def gtT : A2 := fun x y m P => match x, y with | .int i, .int j => P (.bl (decide (j < i))) m | _, _ => False
@[simp] def geT : A2 := fun x y m P => match x, y with | .int i, .int j => P (.bl (decide (j ≤ i))) m | _, _ => False
/-- is, is not (of None, of truths) -/
@[simp] def isT : A2 := fun x y m P => match x, y with
  | .bl a, .bl b => P (.bl (decide (a = b))) m
  | .non, .non => P (.bl true) m
  | .cst _, .non => False
  | .kr _ _, .non => False
  | .exc _ _ _ _, .non => False
  | _, .non => P (.bl false) m
  | _, _ => False
@[simp] def isnT : A2 := fun x y m P => isT x y m fun t m => match t with | .bl b => P (.bl (!b)) m | _ => False
theorem sum_rep (k : Nat) : ∀ n : Nat, (List.replicate n k).sum = n * k
  | 0 => by simp
  | n + 1 => by rw [List.replicate_succ, List.sum_cons, sum_rep k n, Nat.succ_mul]; omega
theorem flatten_sok {a : List Nat} (h : SOk a) (n : Nat) (hn : n ≤ 1000) (hl : a.length ≤ 1000) : SOk (List.replicate n a).flatten :=
  ⟨by rw [List.length_flatten, List.map_replicate, sum_rep]; have : n * a.length ≤ 1000 * 1000 := Nat.mul_le_mul hn hl; exact Nat.le_trans this (by decide), fun c hc => by
    obtain ⟨l, h1, h2⟩ := List.mem_flatten.mp hc
    cases (List.mem_replicate.mp h1).2
    exact h.ok c h2⟩
theorem vrs_flat {Γ : Gm} {G : Gh} {H : Hp} {ts : List T} {us : List V} (h : VRs Γ G H ts us) : ∀ n : Nat, VRs Γ G H (List.replicate n ts).flatten (List.replicate n us).flatten
  | 0 => vrs_nil.mpr rfl
  | n + 1 => by
    rw [List.replicate_succ, List.replicate_succ, List.flatten_cons, List.flatten_cons]
    exact h.app (vrs_flat h n)
section
variable {X : Cx} {Γ : Gm}
theorem op_addA : OpR X (binaryOp .Add) (fun x y H Q => (rI0 (fun i j => .int (i + j)) x y H Q ∨ (∃ i j, x = .str i ∧ y = .str j ∧ i.length + j.length ≤ sizeLine ∧ Q (.str (i ++ j)) H)) ∨ (rCatT X.K x y H Q ∨ rCat x y H Q)) :=
  op_or' (op_or' op_add op_add_str) (op_or' op_catT op_cat)
/-- a new list that stands still -/
theorem new_lst {G : Gh} {H : Hp} {m : Mem} {ts : List T} {us : List V} {p : Addr} (r : MR Γ G m H) (h : VRs Γ G H ts us) (np : H p = none) : Stp G H G (upd H p (.lst us)) ∧ MR Γ G m (upd H p (.lst us)) ∧ VR Γ G (upd H p (.lst us)) (.lst ts) (.ref p) :=
  ⟨Stp.new np, r.new np, vr_lst.mpr ⟨p, us, rfl, r.cold np, upd_same, (Stp.new np).vrs h⟩⟩
theorem new_tup {G : Gh} {H : Hp} {m : Mem} {ts : List T} {us : List V} {p : Addr} (r : MR Γ G m H) (h : VRs Γ G H ts us) (np : H p = none) : Stp G H G (upd H p (.tup us)) ∧ MR Γ G m (upd H p (.tup us)) ∧ VR Γ G (upd H p (.tup us)) (.tup ts) (.ref p) :=
  ⟨Stp.new np, r.new np, vr_tup.mpr ⟨p, us, rfl, .inl ⟨r.cold np, .inl upd_same⟩, (Stp.new np).vrs h⟩⟩
theorem cat_sim {G : Gh} {H : Hp} {m : Mem} {x y : T} {v u : V} {P : PX} {Q : VK} {a b : List T} (r : MR Γ G m H) (hx : VB Γ G H x v) (hy : VB Γ G H y u) (ea : asX m x = some a) (eb : asX m y = some b) (hl : a.length + b.length ≤ sizeLine) (p : P (.lst (a ++ b)) m)
    (k : ∀ t m' G' w H', P t m' → Stp G H G' H' → MR Γ G' m' H' → VR Γ G' H' t w → Q w H') : rCat v u H Q := by
  obtain ⟨p1, us, rfl, e1, v1⟩ := rdX r hx ea
  obtain ⟨p2, ws, rfl, e2, v2⟩ := rdX r hy eb
  refine ⟨p1, p2, us, ws, rfl, rfl, e1, e2, by rw [v1.length, v2.length]; exact hl, fun p' np => ?_⟩
  obtain ⟨s, r', w⟩ := new_lst r (v1.app v2) np
  exact k _ m G _ _ p s r' w
theorem sim_add : Sim2 Γ (fun x y H Q => (rI0 (fun i j => .int (i + j)) x y H Q ∨ (∃ i j, x = .str i ∧ y = .str j ∧ i.length + j.length ≤ sizeLine ∧ Q (.str (i ++ j)) H)) ∨ (rCatT Γ.K x y H Q ∨ rCat x y H Q)) addT := by
  intro G m H x y v u P Q r hx hy h k
  unfold addT at h
  split at h
  · cases vb_int hx; cases vb_int hy
    exact .inl (.inl ⟨_, _, rfl, rfl, k _ m G _ H h Stp.refl r (vr_int.mpr rfl)⟩)
  · rename_i a b
    obtain ⟨rfl, h1⟩ := vb_str hx
    obtain ⟨rfl, h2⟩ := vb_str hy
    exact .inl (.inr ⟨_, _, rfl, rfl, by rw [tx_len, tx_len]; exact h.1, k _ m G _ H h.2 Stp.refl r (vr_str.mpr ⟨by rw [tx_app], h1.app h2 h.1⟩)⟩)
  · rename_i a b
    obtain ⟨p1, us, rfl, e1, v1⟩ := rdT hx (ts := a) rfl
    obtain ⟨p2, ws, rfl, e2, v2⟩ := rdT hy (ts := b) rfl
    refine .inr (.inl ⟨p1, p2, us, ws, rfl, rfl, e1, e2, fun z => h.1 (by have := v1.length; rw [z] at this; exact List.eq_nil_of_length_eq_zero this.symm), by rw [v1.length, v2.length]; exact h.2.1, fun z => ?_, fun z p np => ?_⟩)
    · have : b = [] := by have := v2.length; rw [z] at this; exact List.eq_nil_of_length_eq_zero this.symm
      subst this
      rw [List.append_nil] at h
      exact k _ m G _ H h.2.2 Stp.refl r (hx.atom fun _ z => z)
    · obtain ⟨s, r', w⟩ := new_tup r (v1.app v2) np
      exact k _ m G _ _ h.2.2 s r' w
  · split at h
    · rename_i a b ea eb
      exact .inr (.inr (cat_sim r hx hy ea eb h.1 h.2 k))
    · exact h.elim
/-- x + y, a new list to be changed -/
@[simp] def catF : A2 := fun x y m P => match asX m x, asX m y with | some a, some b => a.length + b.length ≤ sizeLine ∧ P (.lst (a ++ b)) m | _, _ => False
theorem sim_catF : Sim2F Γ rCat catF := by
  intro G m H x y v u P Q r hx hy h k
  unfold catF at h
  split at h
  · rename_i a b ea eb
    obtain ⟨p1, us, rfl, e1, v1⟩ := rdX r hx ea
    obtain ⟨p2, ws, rfl, e2, v2⟩ := rdX r hy eb
    exact ⟨p1, p2, us, ws, rfl, rfl, e1, e2, by rw [v1.length, v2.length]; exact h.1, fun p' np => k.1 _ _ p' h.2 (v1.app v2) np⟩
  · exact h.elim
theorem sim_sub : Sim2 Γ (rI0 fun i j => .int (i - j)) subT := by
  intro G m H x y v u P Q r hx hy h k
  unfold subT at h
  split at h
  · cases vb_int hx; cases vb_int hy
    exact ⟨_, _, rfl, rfl, k _ m G _ H h Stp.refl r (vr_int.mpr rfl)⟩
  · exact h.elim
theorem op_mulA : OpR X (binaryOp .Mult) (fun x y H Q => (rI CMul (fun i j => .int (i * j)) x y H Q ∨ rI CMulX (fun i j => .int (i * j)) x y H Q) ∨ (rRepS x y H Q ∨ rRep x y H Q)) :=
  op_or' (op_or' op_mul op_mulX) (op_or' op_repS op_rep)
theorem sim_mul : Sim2 Γ (fun x y H Q => (rI CMul (fun i j => .int (i * j)) x y H Q ∨ rI CMulX (fun i j => .int (i * j)) x y H Q) ∨ (rRepS x y H Q ∨ rRep x y H Q)) mulT := by
  intro G m H x y v u P Q r hx hy h k
  unfold mulT at h
  split at h
  · cases vb_int hx; cases vb_int hy
    rcases h.1 with c | c
    · exact .inl (.inl ⟨_, _, rfl, rfl, c, k _ m G _ H h.2 Stp.refl r (vr_int.mpr rfl)⟩)
    · exact .inl (.inr ⟨_, _, rfl, rfl, c, k _ m G _ H h.2 Stp.refl r (vr_int.mpr rfl)⟩)
  · rename_i a j
    obtain ⟨rfl, h1⟩ := vb_str hx
    cases vb_int hy
    refine .inr (.inl ⟨a, j.toNat, rfl, by rw [Int.toNat_of_nonneg h.1], by omega, h.2.2.1, k _ m G _ H h.2.2.2 Stp.refl r (vr_str.mpr ⟨rfl, flatten_sok h1 _ (by omega) h.2.2.1⟩)⟩)
  · cases vb_int hy
    split at h
    · rename_i a ea
      obtain ⟨p1, us, rfl, e1, v1⟩ := rdX r hx ea
      refine .inr (.inr ⟨p1, _, us, rfl, rfl, e1, h.1, h.2.1, by rw [v1.length]; exact h.2.2.1, fun p np => ?_⟩)
      obtain ⟨s, r', w⟩ := new_lst r (vrs_flat v1 _) np
      exact k _ m G _ _ h.2.2.2 s r' w
    · exact h.elim
  · exact h.elim
theorem sim_mod : Sim2 Γ (rI (fun _ j => 0 < j) fun i j => .int (i % j)) modT := by
  intro G m H x y v u P Q r hx hy h k
  unfold modT at h
  split at h
  · cases vb_int hx; cases vb_int hy
    exact ⟨_, _, rfl, rfl, h.1, k _ m G _ H h.2 Stp.refl r (vr_int.mpr rfl)⟩
  · exact h.elim
theorem sim_fdiv : Sim2 Γ (rI CDivW fun i j => .int (i / j)) fdivT := by
  intro G m H x y v u P Q r hx hy h k
  unfold fdivT at h
  split at h
  · rename_i i j
    cases vb_int hx; cases vb_int hy
    refine ⟨_, _, rfl, rfl, wide_div h.1 (b := 8000) ?_ (by decide) (by decide), k _ m G _ H h.2.2 Stp.refl r (vr_int.mpr rfl)⟩
    have : (j.natAbs : Int) < ((2 ^ 8000 : Nat) : Int) := by
      rw [Int.natAbs_of_nonneg (by omega)]
      have := h.2.1
      unfold bigB at this
      exact_mod_cast this
    exact_mod_cast this
  · exact h.elim
theorem sim_pow : Sim2 Γ (rI CPow fun i j => .int (i ^ j.toNat)) powT := by
  intro G m H x y v u P Q r hx hy h k
  unfold powT at h
  split at h
  · cases vb_int hx; cases vb_int hy
    exact ⟨_, _, rfl, rfl, h.1, k _ m G _ H h.2 Stp.refl r (vr_int.mpr rfl)⟩
  · exact h.elim
theorem sim_neg : Sim1 Γ (rU fun i => .int (-i)) negT := by
  intro G m H x v P Q r hx h k
  unfold negT at h
  split at h
  · cases vb_int hx
    exact ⟨_, rfl, k _ m G _ H h Stp.refl r (vr_int.mpr rfl)⟩
  · exact h.elim
theorem op_ltA : OpR X (compareOp .Lt) (fun x y H Q => rI0 (fun i j => .bl (decide (i < j))) x y H Q ∨ ∃ i j, x = .str i ∧ y = .str j ∧ Q (.bl (decide (i.cps.toList < j.cps.toList))) H) := op_or' op_lt op_lt_str
theorem sim_lt : Sim2 Γ (fun x y H Q => rI0 (fun i j => .bl (decide (i < j))) x y H Q ∨ ∃ i j, x = .str i ∧ y = .str j ∧ Q (.bl (decide (i.cps.toList < j.cps.toList))) H) ltT := by
  intro G m H x y v u P Q r hx hy h k
  unfold ltT at h
  split at h
  · cases vb_int hx; cases vb_int hy
    exact .inl ⟨_, _, rfl, rfl, k _ m G _ H h Stp.refl r (vr_bl.mpr rfl)⟩
  · obtain ⟨rfl, h1⟩ := vb_str hx
    obtain ⟨rfl, h2⟩ := vb_str hy
    exact .inr ⟨_, _, rfl, rfl, k _ m G _ H h Stp.refl r (vr_bl.mpr (by rw [tx_list, tx_list]))⟩
  · exact h.elim
theorem sim_le : Sim2 Γ (rI0 fun i j => .bl (decide (i ≤ j))) leT := by
  intro G m H x y v u P Q r hx hy h k
  unfold leT at h
  split at h
  · cases vb_int hx; cases vb_int hy
    exact ⟨_, _, rfl, rfl, k _ m G _ H h Stp.refl r (vr_bl.mpr rfl)⟩
  · exact h.elim
theorem sim_gt : Sim2 Γ (rI0 fun i j => .bl (decide (j < i))) gtT := by
  intro G m H x y v u P Q r hx hy h k
  unfold gtT at h
  split at h
  · cases vb_int hx; cases vb_int hy
    exact ⟨_, _, rfl, rfl, k _ m G _ H h Stp.refl r (vr_bl.mpr rfl)⟩
  · exact h.elim
theorem sim_ge : Sim2 Γ (rI0 fun i j => .bl (decide (j ≤ i))) geT := by
  intro G m H x y v u P Q r hx hy h k
  unfold geT at h
  split at h
  · cases vb_int hx; cases vb_int hy
    exact ⟨_, _, rfl, rfl, k _ m G _ H h Stp.refl r (vr_bl.mpr rfl)⟩
  · exact h.elim
theorem op_isA : OpR X (compareOp .Is) (fun x y H Q => (y = .non ∧ Q (.bl (decide (x = .non))) H) ∨ ∃ a b, x = .bl a ∧ y = .bl b ∧ Q (.bl (decide (a = b))) H) := op_or' op_isN op_is_bl
theorem op_isnA : OpR X (compareOp .IsNot) (fun x y H Q => (y = .non ∧ Q (.bl (!decide (x = .non))) H) ∨ ∃ a b, x = .bl a ∧ y = .bl b ∧ Q (.bl (!decide (a = b))) H) := op_or' op_notN op_isnot_bl
theorem is_sim {G : Gh} {H : Hp} {m : Mem} {x y : T} {v u : V} {P : PX} (r : MR Γ G m H) (hx : VB Γ G H x v) (hy : VB Γ G H y u) (h : isT x y m P) : (∃ b, P (.bl b) m ∧ u = .non ∧ decide (v = .non) = b) ∨ ∃ a b, v = .bl a ∧ u = .bl b ∧ P (.bl (decide (a = b))) m := by
  cases y with
  | non =>
    cases vb_non hy
    cases x with
    | non => cases vb_non hx; exact .inl ⟨true, h, rfl, rfl⟩
    | bl b => cases vb_bl hx; exact .inl ⟨false, h, rfl, rfl⟩
    | int i => cases vb_int hx; exact .inl ⟨false, h, rfl, rfl⟩
    | str l => obtain ⟨rfl, _⟩ := vb_str hx; exact .inl ⟨false, h, rfl, rfl⟩
    | cst v => exact h.elim
    | kr k R => exact h.elim
    | exc a dd C fs => exact h.elim
    | scr ns => obtain ⟨a, _, rfl, _⟩ := rdL r hx (ts := ns.map T.int) rfl; exact .inl ⟨false, h, rfl, rfl⟩
    | lst xs => obtain ⟨a, _, rfl, _⟩ := rdL r hx (ts := xs) rfl; exact .inl ⟨false, h, rfl, rfl⟩
    | tup xs => obtain ⟨a, _, rfl, _⟩ := rdT hx (ts := xs) rfl; exact .inl ⟨false, h, rfl, rfl⟩
    | dct xs => obtain ⟨a, _, rfl, _⟩ := rdD r hx (ts := xs) rfl; exact .inl ⟨false, h, rfl, rfl⟩
    | ins C xs => obtain ⟨a, _, _, rfl, _⟩ := rdI r hx (C := C) (fs := xs) rfl; exact .inl ⟨false, h, rfl, rfl⟩
    | obj n => obtain ⟨a, rfl, _⟩ := vr_obj.mp (hx.atom fun _ z => z); exact .inl ⟨false, h, rfl, rfl⟩
  | bl b =>
    cases vb_bl hy
    cases x with
    | bl a => cases vb_bl hx; exact .inr ⟨_, _, rfl, rfl, h⟩
    | _ => exact h.elim
  | _ => cases x <;> exact h.elim
theorem sim_is : Sim2 Γ (fun x y H Q => (y = .non ∧ Q (.bl (decide (x = .non))) H) ∨ ∃ a b, x = .bl a ∧ y = .bl b ∧ Q (.bl (decide (a = b))) H) isT := by
  intro G m H x y v u P Q r hx hy h k
  rcases is_sim r hx hy h with ⟨b, p, rfl, e⟩ | ⟨a, b, rfl, rfl, p⟩
  · exact .inl ⟨rfl, by rw [e]; exact k _ m G _ H p Stp.refl r (vr_bl.mpr rfl)⟩
  · exact .inr ⟨a, b, rfl, rfl, k _ m G _ H p Stp.refl r (vr_bl.mpr rfl)⟩
theorem sim_isn : Sim2 Γ (fun x y H Q => (y = .non ∧ Q (.bl (!decide (x = .non))) H) ∨ ∃ a b, x = .bl a ∧ y = .bl b ∧ Q (.bl (!decide (a = b))) H) isnT := by
  intro G m H x y v u P Q r hx hy h k
  rcases is_sim r hx hy h with ⟨b, p, rfl, e⟩ | ⟨a, b, rfl, rfl, p⟩
  · exact .inl ⟨rfl, by rw [e]; exact k _ m G _ H p Stp.refl r (vr_bl.mpr rfl)⟩
  · exact .inr ⟨a, b, rfl, rfl, k _ m G _ H p Stp.refl r (vr_bl.mpr rfl)⟩
end
/-! ## equality of data -/
mutual
def toD : T → PyData
  | .bl b => .bool b
  | .int i => .int i
  | .str l => .str (tx l)
  | .lst xs => .list (toDs xs)
  | .tup xs => .tuple (toDs xs)
  | _ => .none
def toDs : List T → List PyData
  | [] => []
  | t :: ts => toD t :: toDs ts
end
mutual
def eqT : T → T → Bool
  | .non, .non => true
  | .bl a, .bl b => a == b
  | .bl a, .int j => (if a then 1 else 0) == j
  | .int i, .bl b => i == (if b then 1 else 0)
  | .int i, .int j => i == j
  | .str x, .str y => decide (x = y)
  | .lst xs, .lst ys => eqTs xs ys
  | .tup xs, .tup ys => eqTs xs ys
  | _, _ => false
def eqTs : List T → List T → Bool
  | [], [] => true
  | x :: xs, y :: ys => eqT x y && eqTs xs ys
  | _, _ => false
end
mutual
def Shp : Nat → T → Prop
  | _, .non => True
  | _, .bl _ => True
  | _, .int _ => True
  | _, .str _ => True
  | 0, .lst _ => False
  | 0, .tup _ => False
  | n + 1, .lst xs => Shps n xs
  | n + 1, .tup xs => Shps n xs
  | _, _ => False
def Shps : Nat → List T → Prop
  | _, [] => True
  | n, t :: ts => Shp n t ∧ Shps n ts
end
section
variable {n : Nat}
@[simp] theorem shp_non : Shp n .non := by cases n <;> simp [Shp]
@[simp] theorem shp_bl {b : Bool} : Shp n (.bl b) := by cases n <;> simp [Shp]
@[simp] theorem shp_int {b : Int} : Shp n (.int b) := by cases n <;> simp [Shp]
@[simp] theorem shp_str {b : List Nat} : Shp n (.str b) := by cases n <;> simp [Shp]
@[simp] theorem shp_lst {b : List T} : Shp (n + 1) (.lst b) ↔ Shps n b := by simp [Shp]
@[simp] theorem shp_tup {b : List T} : Shp (n + 1) (.tup b) ↔ Shps n b := by simp [Shp]
@[simp] theorem shps_nil : Shps n [] := by simp [Shps]
@[simp] theorem shps_cons {t : T} {b : List T} : Shps n (t :: b) ↔ Shp n t ∧ Shps n b := by simp [Shps]
theorem shps_all : ∀ {l : List T}, Shps n l ↔ ∀ t ∈ l, Shp n t
  | [] => by simp
  | t :: l => by rw [shps_cons, shps_all]; simp
@[simp] theorem shps_app {l r : List T} : Shps n (l ++ r) ↔ Shps n l ∧ Shps n r := by
  simp only [shps_all, List.mem_append]
  exact ⟨fun h => ⟨fun t z => h t (.inl z), fun t z => h t (.inr z)⟩, fun h t z => z.elim (h.1 t) (h.2 t)⟩
@[simp] theorem shps_strs {α : Type} {f : α → List Nat} {l : List α} : Shps n (l.map fun x => T.str (f x)) := shps_all.mpr fun t h => by obtain ⟨x, _, rfl⟩ := List.mem_map.mp h; exact shp_str
@[simp] theorem shps_strs' {l : List (List Nat)} : Shps n (l.map T.str) := shps_all.mpr fun t h => by obtain ⟨x, _, rfl⟩ := List.mem_map.mp h; exact shp_str
@[simp] theorem shps_ints {α : Type} {f : α → Int} {l : List α} : Shps n (l.map fun x => T.int (f x)) := shps_all.mpr fun t h => by obtain ⟨x, _, rfl⟩ := List.mem_map.mp h; exact shp_int
@[simp] theorem shps_bls {α : Type} {f : α → Bool} {l : List α} : Shps n (l.map fun x => T.bl (f x)) := shps_all.mpr fun t h => by obtain ⟨x, _, rfl⟩ := List.mem_map.mp h; exact shp_bl
@[simp] theorem shps_rep {t : T} {k : Nat} (h : Shp n t) : Shps n (List.replicate k t) := shps_all.mpr fun u hu => by cases (List.mem_replicate.mp hu).2; exact h
variable {Γ : Gm} {G : Gh} {H : Hp} {m : Mem}
mutual
theorem dp_of : ∀ {n : Nat} {t : T} {v : V}, Shp n t → VR Γ G H t v → Dp Γ.K H v (toD t) ∧ (toD t).canLay0 = true ∧ (toD t).depth ≤ n
  | n, .non, v, s, h => by cases vr_non.mp h; simp only [toD]; exact ⟨.non, rfl, Nat.zero_le _⟩
  | n, .bl b, v, s, h => by cases vr_bl.mp h; simp only [toD]; exact ⟨.bl b, rfl, Nat.zero_le _⟩
  | n, .int i, v, s, h => by cases vr_int.mp h; simp only [toD]; exact ⟨.int i, rfl, Nat.zero_le _⟩
  | n, .str l, v, s, h => by
    obtain ⟨rfl, ok⟩ := vr_str.mp h
    simp only [toD]
    refine ⟨.str _, ?_, Nat.zero_le _⟩
    show PyData.strOk (tx l) = true
    unfold PyData.strOk tx
    simp only [List.all_toArray, List.all_eq_true, decide_eq_true_eq]
    exact ok.ok
  | 0, .lst xs, v, s, h => by simp [Shp] at s
  | 0, .tup xs, v, s, h => by simp [Shp] at s
  | n + 1, .lst xs, v, s, h => by
    obtain ⟨a, us, rfl, _, e, vs⟩ := vr_lst.mp h
    obtain ⟨h1, h2, h3⟩ := dps_of (shp_lst.mp s) vs
    simp only [toD]
    exact ⟨.lst (SqL.of e) h1, h2, Nat.succ_le_succ h3⟩
  | n + 1, .tup xs, v, s, h => by
    obtain ⟨a, us, rfl, e, vs⟩ := rdT (.inl h) (ts := xs) rfl
    obtain ⟨h1, h2, h3⟩ := dps_of (shp_tup.mp s) vs
    simp only [toD]
    exact ⟨.tup e h1, h2, Nat.succ_le_succ h3⟩
  | n, .cst _, v, s, h => by cases n <;> simp [Shp] at s
  | n, .scr _, v, s, h => by cases n <;> simp [Shp] at s
  | n, .dct _, v, s, h => by cases n <;> simp [Shp] at s
  | n, .ins _ _, v, s, h => by cases n <;> simp [Shp] at s
  | n, .obj _, v, s, h => by cases n <;> simp [Shp] at s
theorem dps_of : ∀ {n : Nat} {ts : List T} {vs : List V}, Shps n ts → VRs Γ G H ts vs → DpAll Γ.K H vs (toDs ts) ∧ PyData.canLayAll0 (toDs ts) = true ∧ PyData.depthAll (toDs ts) ≤ n
  | n, [], vs, s, h => by cases vrs_nil.mp h; simp only [toDs]; exact ⟨.nil, rfl, Nat.zero_le _⟩
  | n, t :: ts, vs, s, h => by
    obtain ⟨v, r, rfl, h1, h2⟩ := vrs_cons.mp h
    obtain ⟨a1, a2, a3⟩ := dp_of (shps_cons.mp s).1 h1
    obtain ⟨b1, b2, b3⟩ := dps_of (shps_cons.mp s).2 h2
    simp only [toDs]
    exact ⟨.cons a1 b1, by simp [PyData.canLayAll0, a2, b2], by simp only [PyData.depthAll]; omega⟩
end
mutual
theorem eqv_toD : ∀ {n k : Nat} {x y : T}, Shp n x → Shp k y → PyData.eqv (toD x) (toD y) = eqT x y := by
  intro n k x y hx hy
  cases x with
  | non => cases y <;> first | (simp [toD, eqT, PyData.eqv]; done) | (cases k <;> simp [Shp] at hy)
  | bl a => cases y <;> first | (simp [toD, eqT, PyData.eqv]; done) | (cases k <;> simp [Shp] at hy)
  | int a => cases y <;> first | (simp [toD, eqT, PyData.eqv]; done) | (cases k <;> simp [Shp] at hy)
  | str a =>
    cases y with
    | str b =>
      simp only [toD, eqT, PyData.eqv]
      by_cases e : a = b
      · subst e; simp
      · rw [decide_eq_false e, beq_eq_false_iff_ne]; exact fun z => e (tx_inj z)
    | _ => first | (simp [toD, eqT, PyData.eqv]; done) | (cases k <;> simp [Shp] at hy)
  | lst a =>
    cases y with
    | lst b =>
      cases n with
      | zero => simp [Shp] at hx
      | succ n => cases k with
        | zero => simp [Shp] at hy
        | succ k => simp only [toD, eqT, PyData.eqv]; exact eqvs_toD (shp_lst.mp hx) (shp_lst.mp hy)
    | _ => first | (simp [toD, eqT, PyData.eqv]; done) | (cases k <;> simp [Shp] at hy)
  | tup a =>
    cases y with
    | tup b =>
      cases n with
      | zero => simp [Shp] at hx
      | succ n => cases k with
        | zero => simp [Shp] at hy
        | succ k => simp only [toD, eqT, PyData.eqv]; exact eqvs_toD (shp_tup.mp hx) (shp_tup.mp hy)
    | _ => first | (simp [toD, eqT, PyData.eqv]; done) | (cases k <;> simp [Shp] at hy)
  | _ => cases n <;> simp [Shp] at hx
theorem eqvs_toD : ∀ {n k : Nat} {x y : List T}, Shps n x → Shps k y → PyData.eqvAll (toDs x) (toDs y) = eqTs x y := by
  intro n k x y hx hy
  cases x with
  | nil => cases y <;> simp [toDs, eqTs, PyData.eqvAll]
  | cons a xs =>
    cases y with
    | nil => simp [toDs, eqTs, PyData.eqvAll]
    | cons b ys => simp only [toDs, eqTs, PyData.eqvAll]; rw [eqv_toD (shps_cons.mp hx).1 (shps_cons.mp hy).1, eqvs_toD (shps_cons.mp hx).2 (shps_cons.mp hy).2]
end
mutual
theorem eqT_refl : ∀ {n : Nat} {x : T}, Shp n x → eqT x x = true := by
  intro n x hx
  cases x with
  | lst a => cases n with
    | zero => simp [Shp] at hx
    | succ n => simp only [eqT]; exact eqTs_refl (shp_lst.mp hx)
  | tup a => cases n with
    | zero => simp [Shp] at hx
    | succ n => simp only [eqT]; exact eqTs_refl (shp_tup.mp hx)
  | _ => first | (simp [eqT]; done) | (cases n <;> simp [Shp] at hx)
theorem eqTs_refl : ∀ {n : Nat} {x : List T}, Shps n x → eqTs x x = true := by
  intro n x hx
  cases x with
  | nil => simp [eqTs]
  | cons a xs => simp only [eqTs]; rw [eqT_refl (shps_cons.mp hx).1, eqTs_refl (shps_cons.mp hx).2]; rfl
end
end
end AM
set_option maxHeartbeats 4000000
namespace AM
open PySem PySem.Spec PyProof.Rows L2 Eb
/-! ## == of data, in, subscripts, slices -/
def nrm (m : Mem) : T → T
  | .obj n => match m[n]? with | some (.lst xs) => .lst xs | _ => .obj n
  | t => t
@[simp] theorem nrm_lst {m : Mem} {xs : List T} : nrm m (.lst xs) = .lst xs := rfl
@[simp] theorem nrm_tup {m : Mem} {xs : List T} : nrm m (.tup xs) = .tup xs := rfl
@[simp] theorem nrm_int {m : Mem} {xs : Int} : nrm m (.int xs) = .int xs := rfl
@[simp] theorem nrm_bl {m : Mem} {xs : Bool} : nrm m (.bl xs) = .bl xs := rfl
@[simp] theorem nrm_str {m : Mem} {xs : List Nat} : nrm m (.str xs) = .str xs := rfl
@[simp] theorem nrm_non {m : Mem} : nrm m .non = .non := rfl
@[simp] def eqA : A2 := fun x y m P => Shp 60 (nrm m x) ∧ Shp 60 (nrm m y) ∧ P (.bl (eqT (nrm m x) (nrm m y))) m
@[simp] def neA : A2 := fun x y m P => Shp 60 (nrm m x) ∧ Shp 60 (nrm m y) ∧ P (.bl (!eqT (nrm m x) (nrm m y))) m
def flatT : T → Bool
  | .non => true
  | .bl _ => true
  | .int _ => true
  | .str _ => true
  | _ => false
def keyT : T → Option TK
  | .int i => some (.inl i)
  | .str l => some (.inr l)
  | _ => none
def valT (kvs : List (TK × T)) (k : TK) : Option T := (kvs.find? fun kv => decide (kv.1 = k)).map (·.2)
def putKT (kvs : List (TK × T)) (k : TK) (v : T) : List (TK × T) := if (kvs.any fun kv => decide (kv.1 = k)) = true then kvs.map (fun kv => if kv.1 = k then (kv.1, v) else kv) else kvs ++ [(k, v)]
def getI {α : Type} (xs : List α) (i : Int) : Option α := if 0 ≤ i then xs[i.toNat]? else if -(xs.length : Int) ≤ i then xs[(i + xs.length).toNat]? else none
def cutT {α : Type} (xs : List α) (lo hi : Option Int) : List α := (xs.drop (HT.sIx xs.length 0 lo)).take (HT.sIx xs.length xs.length hi - HT.sIx xs.length 0 lo)
/-- a sequence -/
def asS (m : Mem) (t : T) : Option (List T) := match t with | .tup xs => some xs | t => asL m t
@[simp] def inA : A2 := fun x y m P => match y with
  | .str z => (match x with | .str [c] => P (.bl (decide (c ∈ z))) m | _ => False)
  | y => match asS m y with
    | some ys => flatT x = true ∧ ys.all flatT = true ∧ P (.bl (ys.any fun t => eqT t x)) m
    | none => match asD m y, keyT x with
      | some kvs, some k => P (.bl (valT kvs k).isSome) m
      | _, _ => False
@[simp] def ninA : A2 := fun x y m P => inA x y m fun t m => match t with | .bl b => P (.bl (!b)) m | _ => False
@[simp] def ixA : A2 := fun x y m P => match asD m x with
  | some kvs => (match keyT y with | some k => (match valT kvs k with | some t => P t m | none => False) | none => False)
  | none => match y with
    | .int i => (match x with
      | .str z => (match getI z i with | some c => P (.str [c]) m | none => False)
      | x => match asS m x with
        | some xs => (match getI xs i with | some t => P t m | none => False)
        | none => False)
    | _ => False
section
variable {Γ : Gm} {G G' : Gh} {H H' : Hp} {v u : V} {m : Mem} {t : T}
theorem dp_nrm {n : Nat} (r : MR Γ G m H) (h : VB Γ G H t v) (s : Shp n (nrm m t)) : Dp Γ.K H v (toD (nrm m t)) ∧ (toD (nrm m t)).canLay0 = true ∧ (toD (nrm m t)).depth ≤ n := by
  have key : ∀ xs, asX m t = some xs → nrm m t = .lst xs → Dp Γ.K H v (toD (nrm m t)) ∧ (toD (nrm m t)).canLay0 = true ∧ (toD (nrm m t)).depth ≤ n := fun xs e en => by
    rw [en] at s ⊢
    cases n with
    | zero => simp [Shp] at s
    | succ n =>
      obtain ⟨a, us, rfl, e1, vs⟩ := rdX r h e
      obtain ⟨h1, h2, h3⟩ := dps_of (shp_lst.mp s) vs
      simp only [toD]
      exact ⟨.lst (SqL.of e1) h1, h2, Nat.succ_le_succ h3⟩
  cases t with
  | lst xs => exact key xs rfl rfl
  | obj k =>
    by_cases c : ∃ xs, m[k]? = some (.lst xs)
    · obtain ⟨xs, e⟩ := c
      exact key xs (by simp [asX, e]) (by simp [nrm, e])
    · have en : nrm m (.obj k) = .obj k := by
        simp only [nrm]
        split
        · rename_i xs e; exact (c ⟨xs, e⟩).elim
        · rfl
      rw [en] at s
      cases n <;> simp [Shp] at s
  | dct _ => simp only [nrm] at s; cases n <;> simp [Shp] at s
  | _ => exact dp_of s (h.atom fun _ z => z)
theorem shaped_of {d : PyData} (h1 : d.canLay0 = true) (h2 : d.depth ≤ 60) : SeqAt.shaped d = true := by
  unfold SeqAt.shaped
  rw [h1, decide_eq_true (by omega)]; rfl
theorem sim_eq : Sim2 Γ (rEqD Γ.K) eqA := by
  intro G m H x y v u P Q r hx hy h k
  obtain ⟨h1, h2, p⟩ := h
  obtain ⟨a1, a2, a3⟩ := dp_nrm r hx h1
  obtain ⟨b1, b2, b3⟩ := dp_nrm r hy h2
  refine ⟨_, _, a1, b1, shaped_of a2 a3, shaped_of b2 b3, ?_⟩
  rw [eqv_toD h1 h2]
  exact k _ m G _ H p Stp.refl r (vr_bl.mpr rfl)
theorem sim_ne : Sim2 Γ (rNeD Γ.K) neA := by
  intro G m H x y v u P Q r hx hy h k
  obtain ⟨h1, h2, p⟩ := h
  obtain ⟨a1, a2, a3⟩ := dp_nrm r hx h1
  obtain ⟨b1, b2, b3⟩ := dp_nrm r hy h2
  refine ⟨_, _, a1, b1, shaped_of a2 a3, shaped_of b2 b3, ?_⟩
  rw [eqv_toD h1 h2]
  exact k _ m G _ H p Stp.refl r (vr_bl.mpr rfl)
theorem rdS {ts : List T} (r : MR Γ G m H) (h : VB Γ G H t v) (e : asS m t = some ts) : ∃ a us, v = .ref a ∧ (SqL Γ.K H a us ∨ SqT Γ.K H a us) ∧ VRs Γ G H ts us := by
  have key : asL m t = some ts → ∃ a us, v = .ref a ∧ (SqL Γ.K H a us ∨ SqT Γ.K H a us) ∧ VRs Γ G H ts us := fun e => by
    obtain ⟨a, us, e1, e2, e3⟩ := rdL r h e
    exact ⟨a, us, e1, .inl e2, e3⟩
  cases t with
  | tup xs =>
    obtain ⟨a, us, e1, e2, e3⟩ := rdT h (ts := ts) e
    exact ⟨a, us, e1, .inr e2, e3⟩
  | _ => exact key e
theorem flat_of (h : VR Γ G H t v) (f : flatT t = true) : flatV v = true := by
  cases t with
  | non => cases vr_non.mp h; rfl
  | bl _ => cases vr_bl.mp h; rfl
  | int _ => cases vr_int.mp h; rfl
  | str _ => obtain ⟨rfl, _⟩ := vr_str.mp h; rfl
  | _ => cases f
theorem flats_of : ∀ {ts : List T} {vs : List V}, VRs Γ G H ts vs → ts.all flatT = true → vs.all flatV = true
  | [], vs, h, f => by cases vrs_nil.mp h; rfl
  | t :: ts, vs, h, f => by
    obtain ⟨v, r, rfl, h1, h2⟩ := vrs_cons.mp h
    rw [List.all_cons, Bool.and_eq_true] at f
    rw [List.all_cons, flat_of h1 f.1, flats_of h2 f.2]; rfl
theorem eqV_of {x : T} (h : VR Γ G H t v) (f : flatT t = true) (hx : VR Γ G H x u) (fx : flatT x = true) : eqV v u = eqT t x := by
  cases t with
  | non => cases vr_non.mp h; cases x <;> first | (cases vr_non.mp hx; simp [eqV, eqT]; done) | (cases vr_bl.mp hx; simp [eqV, eqT]; done) | (cases vr_int.mp hx; simp [eqV, eqT]; done) | (obtain ⟨rfl, _⟩ := vr_str.mp hx; simp [eqV, eqT]; done) | cases fx
  | bl _ => cases vr_bl.mp h; cases x <;> first | (cases vr_non.mp hx; simp [eqV, eqT]; done) | (cases vr_bl.mp hx; simp [eqV, eqT]; done) | (cases vr_int.mp hx; simp [eqV, eqT]; done) | (obtain ⟨rfl, _⟩ := vr_str.mp hx; simp [eqV, eqT]; done) | cases fx
  | int _ => cases vr_int.mp h; cases x <;> first | (cases vr_non.mp hx; simp [eqV, eqT]; done) | (cases vr_bl.mp hx; simp [eqV, eqT]; done) | (cases vr_int.mp hx; simp [eqV, eqT]; done) | (obtain ⟨rfl, _⟩ := vr_str.mp hx; simp [eqV, eqT]; done) | cases fx
  | str a =>
    obtain ⟨rfl, _⟩ := vr_str.mp h
    cases x with
    | str b =>
      obtain ⟨rfl, _⟩ := vr_str.mp hx
      simp only [eqV, eqT]
      by_cases e : a = b
      · subst e; simp
      · rw [decide_eq_false e, beq_eq_false_iff_ne]; exact fun z => e (tx_inj z)
    | _ => first | (cases vr_non.mp hx; simp [eqV, eqT]; done) | (cases vr_bl.mp hx; simp [eqV, eqT]; done) | (cases vr_int.mp hx; simp [eqV, eqT]; done) | cases fx
  | _ => cases f
theorem inV_of {x : T} (hx : VR Γ G H x u) (fx : flatT x = true) : ∀ {ts : List T} {vs : List V}, VRs Γ G H ts vs → ts.all flatT = true → inV u vs = ts.any fun t => eqT t x
  | [], vs, h, f => by cases vrs_nil.mp h; rfl
  | t :: ts, vs, h, f => by
    obtain ⟨v, r, rfl, h1, h2⟩ := vrs_cons.mp h
    rw [List.all_cons, Bool.and_eq_true] at f
    have ih := inV_of hx fx h2 f.2
    unfold inV at ih ⊢
    rw [List.any_cons, List.any_cons, ih, eqV_of h1 f.1 hx fx]
theorem key_of' {k : TK} (h : VB Γ G H t v) (e : keyT t = some k) : v = kV (tk k) := by
  cases t with
  | int i => cases vb_int h; cases (show Sum.inl i = k from Option.some.inj e); rfl
  | str l => obtain ⟨rfl, _⟩ := vb_str h; cases (show Sum.inr l = k from Option.some.inj e); rfl
  | _ => cases e
theorem VRd.val {k : TK} : ∀ {ts : List (TK × T)} {us : List (Key × V)}, VRd Γ G H ts us → match valT ts k with | some t => ∃ v, valV us (tk k) = some v ∧ VR Γ G H t v | none => valV us (tk k) = none
  | [], us, h => by cases vrd_nil.mp h; rfl
  | (k', t) :: ts, us, h => by
    obtain ⟨v, r, rfl, h1, h2⟩ := vrd_cons.mp h
    by_cases c : k' = k
    · subst c
      have : valT ((k', t) :: ts) k' = some t := by simp [valT]
      rw [this]
      exact ⟨v, valV_pos rfl, h1⟩
    · have e1 : valT ((k', t) :: ts) k = valT ts k := by simp [valT, c]
      have e2 : valV ((tk k', v) :: r) (tk k) = valV r (tk k) := valV_neg fun z => c (tk_inj z)
      rw [e1, e2]
      exact h2.val
theorem VRd.any {k : TK} : ∀ {ts : List (TK × T)} {us : List (Key × V)}, VRd Γ G H ts us → (us.any fun kv => decide (kv.1 = tk k)) = ts.any fun kv => decide (kv.1 = k)
  | [], us, h => by cases vrd_nil.mp h; rfl
  | (k', t) :: ts, us, h => by
    obtain ⟨v, r, rfl, h1, h2⟩ := vrd_cons.mp h
    rw [List.any_cons, List.any_cons, h2.any]
    congr 1
    by_cases c : k' = k
    · subst c; simp
    · simp only [c, decide_false]
      exact decide_eq_false fun z => c (tk_inj z)
theorem VRd.mapP {k : TK} {t' : T} {v' : V} (h' : VR Γ G H t' v') : ∀ {ts : List (TK × T)} {us : List (Key × V)}, VRd Γ G H ts us → VRd Γ G H (ts.map fun kv => if kv.1 = k then (kv.1, t') else kv) (us.map fun kv => if kv.1 = tk k then (kv.1, v') else kv)
  | [], us, h => by cases vrd_nil.mp h; exact vrd_nil.mpr rfl
  | (k', t) :: ts, us, h => by
    obtain ⟨v, r, rfl, h1, h2⟩ := vrd_cons.mp h
    rw [List.map_cons, List.map_cons]
    by_cases c : k' = k
    · subst c
      rw [if_pos rfl, if_pos rfl]
      exact vrd_cons.mpr ⟨_, _, rfl, h', h2.mapP h'⟩
    · rw [if_neg c, if_neg fun z => c (tk_inj z)]
      exact vrd_cons.mpr ⟨_, _, rfl, h1, h2.mapP h'⟩
theorem VRd.app : ∀ {ts ts' : List (TK × T)} {us us' : List (Key × V)}, VRd Γ G H ts us → VRd Γ G H ts' us' → VRd Γ G H (ts ++ ts') (us ++ us')
  | [], _, us, _, h, h' => by rw [vrd_nil.mp h]; exact h'
  | (k, t) :: ts, _, us, _, h, h' => by
    obtain ⟨v, r, rfl, h1, h2⟩ := vrd_cons.mp h
    exact vrd_cons.mpr ⟨v, _, rfl, h1, h2.app h'⟩
theorem VRd.put {k : TK} {t' : T} {v' : V} {ts : List (TK × T)} {us : List (Key × V)} (h : VRd Γ G H ts us) (h' : VR Γ G H t' v') : VRd Γ G H (putKT ts k t') (putK us (tk k) v') := by
  unfold putKT putK
  rw [h.any]
  split
  · exact h.mapP h'
  · exact h.app (vrd_cons.mpr ⟨_, _, rfl, h', vrd_nil.mpr rfl⟩)
theorem VRd.length : ∀ {ts : List (TK × T)} {us : List (Key × V)}, VRd Γ G H ts us → us.length = ts.length
  | [], us, h => by rw [vrd_nil.mp h]; rfl
  | (k, t) :: ts, us, h => by
    obtain ⟨v, r, rfl, _, h2⟩ := vrd_cons.mp h
    show r.length + 1 = ts.length + 1
    rw [h2.length]
end
section
variable {X : Cx}
def rDin (neg : Bool) : R2 := fun y x H Q => ∃ a o, x = .ref a ∧ DGet H a y o ∧ Q (.bl (if neg then !o.isSome else o.isSome)) H
theorem op_din (hu : X.A.units + 1 < cLine) : OpR X (compareOp .In) (rDin false) := by
  intro pins s σ H x y v u Q I rx ry h
  obtain ⟨a, o, rfl, g, q⟩ := h
  cases (show u = Value.ref a from ry)
  exact d_in hu I g rx fun s3 I3 => ⟨.bl o.isSome, H, I3, rfl, q⟩
theorem op_inA (hu : X.A.units + 1 < cLine) : OpR X (compareOp .In) (fun x y H Q => (∃ (c : Nat) (z : Str), x = .str ⟨#[c]⟩ ∧ y = .str z ∧ Q (.bl (decide (c ∈ z.cps.toList))) H) ∨ (rIn X.K false x y H Q ∨ rDin false x y H Q)) := op_or' op_in_sign (op_or' op_in_seq (op_din hu))
theorem op_dnin (hu : X.A.units + 1 < cLine) : OpR X (compareOp .NotIn) (rDin true) := by
  intro pins s σ H x y v u Q I rx ry h
  obtain ⟨a, o, rfl, g, q⟩ := h
  cases (show u = Value.ref a from ry)
  exact d_notIn hu I g rx fun s3 I3 => ⟨.bl (!o.isSome), H, I3, rfl, q⟩
theorem op_ninA (hu : X.A.units + 1 < cLine) : OpR X (compareOp .NotIn) (fun x y H Q => (∃ (c : Nat) (z : Str), x = .str ⟨#[c]⟩ ∧ y = .str z ∧ Q (.bl (!decide (c ∈ z.cps.toList))) H) ∨ (rIn X.K true x y H Q ∨ rDin true x y H Q)) := op_or' op_notIn_sign (op_or' op_notIn_seq (op_dnin hu))
end
section
variable {Γ : Gm} {X : Cx}
theorem in_sim {neg : Bool} {G : Gh} {H : Hp} {m : Mem} {x y : T} {v u : V} {P : PX} {Q : VK} (r : MR Γ G m H) (hx : VB Γ G H x v) (hy : VB Γ G H y u) (h : inA x y m P)
    (k : ∀ b, P (.bl b) m → Q (.bl (if neg then !b else b)) H) : (∃ (c : Nat) (z : Str), v = .str ⟨#[c]⟩ ∧ u = .str z ∧ Q (.bl (if neg then !decide (c ∈ z.cps.toList) else decide (c ∈ z.cps.toList))) H) ∨ (rIn Γ.K neg v u H Q ∨ rDin neg v u H Q) := by
  have key : (match asS m y with
    | some ys => flatT x = true ∧ ys.all flatT = true ∧ P (.bl (ys.any fun t => eqT t x)) m
    | none => match asD m y, keyT x with
      | some kvs, some k => P (.bl (valT kvs k).isSome) m
      | _, _ => False) → rIn Γ.K neg v u H Q ∨ rDin neg v u H Q := fun h => by
    split at h
    · rename_i ys e
      obtain ⟨a, us, rfl, e1, e2⟩ := rdS r hy e
      have vx : VR Γ G H x v := hx.atom fun a z => by cases x <;> first | exact z | cases h.1
      refine .inl ⟨a, us, rfl, e1, flat_of vx h.1, flats_of e2 h.2.1, ?_⟩
      rw [inV_of vx h.1 e2 h.2.1]
      exact k _ h.2.2
    · split at h
      · rename_i kvs k' e1 e2
        obtain ⟨a, us, rfl, e3, e4⟩ := rdD r hy e1
        cases key_of' hx e2
        have := e4.val (k := k')
        refine .inr ⟨a, valV us (tk k'), rfl, .inl ⟨us, tk k', e3, rfl, rfl⟩, ?_⟩
        have eo : (valV us (tk k')).isSome = (valT kvs k').isSome := by
          cases q : valT kvs k' with
          | none => rw [q] at this; rw [this]; rfl
          | some t => rw [q] at this; obtain ⟨v, e, _⟩ := this; rw [e]; rfl
        rw [eo]
        exact k _ h
      · exact h.elim
  cases y with
  | str z =>
    simp only [inA] at h
    split at h
    · rename_i c
      obtain ⟨rfl, _⟩ := vb_str hx
      obtain ⟨rfl, _⟩ := vb_str hy
      exact .inl ⟨c, _, rfl, rfl, by rw [tx_list]; exact k _ h⟩
    · exact h.elim
  | _ => exact .inr (key h)
theorem sim_in : Sim2 Γ (fun x y H Q => (∃ (c : Nat) (z : Str), x = .str ⟨#[c]⟩ ∧ y = .str z ∧ Q (.bl (decide (c ∈ z.cps.toList))) H) ∨ (rIn Γ.K false x y H Q ∨ rDin false x y H Q)) inA := by
  intro G m H x y v u P Q r hx hy h k
  exact in_sim (neg := false) r hx hy h fun b p => k _ m G _ H p Stp.refl r (vr_bl.mpr rfl)
theorem sim_nin : Sim2 Γ (fun x y H Q => (∃ (c : Nat) (z : Str), x = .str ⟨#[c]⟩ ∧ y = .str z ∧ Q (.bl (!decide (c ∈ z.cps.toList))) H) ∨ (rIn Γ.K true x y H Q ∨ rDin true x y H Q)) ninA := by
  intro G m H x y v u P Q r hx hy h k
  exact in_sim (neg := true) r hx hy h fun b p => k _ m G _ H p Stp.refl r (vr_bl.mpr rfl)
/-! subscripts -/
theorem getI_atI {α : Type} {xs : List α} {i : Int} {x : α} (h : getI xs i = some x) : atI xs i = some x := by
  unfold getI at h
  unfold atI ixN
  split at h
  · rename_i h0
    obtain ⟨h1, h2⟩ := List.getElem?_eq_some_iff.mp h
    rw [if_pos h0, if_pos (by omega)]
    exact h
  · rename_i h0
    split at h
    · rename_i h1
      rw [if_neg h0, if_pos h1]
      exact h
    · cases h
def rIxD : R2 := fun x y H Q => ∃ a v, x = .ref a ∧ DGet H a y (some v) ∧ Q v H
theorem ix_dict (hu : X.A.units + 1 < cLine) : IxR X rIxD := by
  intro value slice pins s σ H x y v u Q I rx ry h hs
  obtain ⟨a, z, rfl, g, q⟩ := h
  cases (show v = Value.ref a from rx)
  have hT := dict_typeIs I g
  unfold subscriptTail
  refine wpAny_bind ?_
  rw [getitemInPython_of_ne hT.not_modules]
  refine wpAny_bind (wpAny_specialOf hT PySem.F.slot_dict_getitem.lookup ?_)
  have fin : wpAny (model X.prog X.w) X.A (subscripted slice false (.ref a) u) (fun r s₃ => wpAny (model X.prog X.w) X.A (letTemporaryGo value (.ref a) r >>= fun _ => pure r) (EP X pins σ Q) X.xe s₃) X.xe s := by
    rw [hs]
    refine wpAny_operating (d_getItem hu I g ry fun w' s3 I3 rw' => wpAny_bind (wpAny_letTemporaryGo (wpAny_pure ⟨z, H, I3, rw', q⟩)))
  exact wpAny_pure (wpAny_bind fin)
theorem ix_A (hu : X.A.units + 1 < cLine) : IxR X (fun x y H Q => (rIxS x y H Q ∨ rIxD x y H Q) ∨ (rIxL X.K x y H Q ∨ rIxT X.K x y H Q)) := ix_or (ix_or ix_str (ix_dict hu)) (ix_or ix_list ix_tup)
theorem sim_ix : Sim2 Γ (fun x y H Q => (rIxS x y H Q ∨ rIxD x y H Q) ∨ (rIxL Γ.K x y H Q ∨ rIxT Γ.K x y H Q)) ixA := by
  intro G m H x y v u P Q r hx hy h k
  unfold ixA at h
  split at h
  · rename_i kvs e
    split at h
    · rename_i k' ek
      split at h
      · rename_i t et
        obtain ⟨a, us, rfl, e3, e4⟩ := rdD r hx e
        cases key_of' hy ek
        have := e4.val (k := k')
        rw [et] at this
        obtain ⟨w, e5, e6⟩ := this
        exact .inl (.inr ⟨a, w, rfl, .inl ⟨us, tk k', e3, rfl, e5.symm⟩, k t m G w H h Stp.refl r e6⟩)
      · exact h.elim
    · exact h.elim
  · split at h
    · rename_i i
      cases vb_int hy
      split at h
      · rename_i z
        obtain ⟨rfl, ok⟩ := vb_str hx
        split at h
        · rename_i c ec
          refine .inl (.inl ⟨_, i, c, rfl, rfl, by rw [tx_len]; exact ok.len, by rw [tx_list]; exact getI_atI ec, k _ m G _ H h Stp.refl r (vr_str.mpr ⟨rfl, (show 1 ≤ sizeLine by decide), fun d hd => ?_⟩)⟩)
          cases List.mem_singleton.mp hd
          refine ok.ok c ?_
          unfold getI at ec
          split at ec
          · exact List.mem_of_getElem? ec
          · split at ec
            · exact List.mem_of_getElem? ec
            · cases ec
        · exact h.elim
      · split at h
        · rename_i xs e
          split at h
          · rename_i t et
            obtain ⟨a, us, rfl, e1, e2⟩ := rdS r hx e
            have eu : ∃ w, atI us i = some w ∧ VR Γ G H t w := by
              unfold getI at et
              unfold atI ixN
              split at et
              · rename_i h0
                obtain ⟨h1, h2⟩ := List.getElem?_eq_some_iff.mp et
                obtain ⟨w, e3, e4⟩ := e2.get et
                refine ⟨w, ?_, e4⟩
                rw [if_pos h0, if_pos (by rw [e2.length]; omega)]
                exact e3
              · rename_i h0
                split at et
                · rename_i h1
                  obtain ⟨w, e3, e4⟩ := e2.get et
                  refine ⟨w, ?_, e4⟩
                  rw [if_neg h0, if_pos (by rw [e2.length]; exact h1), e2.length]
                  exact e3
                · cases et
            obtain ⟨w, e3, e4⟩ := eu
            rcases e1 with e1 | e1
            · exact .inr (.inl ⟨a, us, i, w, rfl, rfl, e1, e3, k t m G w H h Stp.refl r e4⟩)
            · exact .inr (.inr ⟨a, us, i, w, rfl, rfl, e1, e3, k t m G w H h Stp.refl r e4⟩)
          · exact h.elim
        · exact h.elim
    · exact h.elim
end
end AM
set_option maxHeartbeats 4000000
namespace AM
open PySem PySem.Spec PyProof.Rows L2 Eb
/-! ## slices -/
abbrev AO := AG0 (Option Int)
@[simp] def oNone : AO := fun _ m P _ => P none m
@[simp] def oSome (a : AE) : AO := fun z m P F => a z m (fun t m1 => match t with | .int i => P (some i) m1 | _ => False) F
def SO (c : Cl) (X : Cx) (e : Option Expr) (a : AO) : Prop := PO X e (rOf (fun _ _ b k => b = k) (go X c.cls) c.W a)
@[simp] def slA (x : T) (lo hi : Option Int) (m : Mem) (P : PX) : Prop := match x with
  | .str l => P (.str (cutT l lo hi)) m
  | x => match asL m x with | some xs => P (.lst (cutT xs lo hi)) m | none => False
@[simp] def aSl (a : AE) (lo hi : AO) : AE := fun z m P F => a z m (fun x m1 => lo z m1 (fun i m2 => hi z m2 (fun j m3 => slA x i j m3 P) F) F) F
/-- .. a new list that is to change -/
@[simp] def slF (x : T) (lo hi : Option Int) (m : Mem) (P : PX) : Prop := match asL m x with | some xs => P (.lst (cutT xs lo hi)) m | none => False
@[simp] def aSlF (a : AE) (lo hi : AO) : AE := fun z m P F => a z m (fun x m1 => lo z m1 (fun i m2 => hi z m2 (fun j m3 => slF x i j m3 P) F) F) F
section
variable {c : Cl} {X : Cx} {e x : Expr} {lo hi : Option Expr} {a b : AE} {al ah : AO} {p2 pos : Pos} {Γ : Gm} {G : Gh} {H : Hp} {m : Mem}
theorem po_weak {e : Option Expr} {t t' : TO} (h : PO X e t) (w : ∀ σ H Q, t' σ H Q → t σ H Q) : PO X e t' := ⟨fun pins s σ H Q I hq => h.run pins s σ H Q I (w σ H Q hq)⟩
theorem so_none : SO c X none oNone := po_weak po_none fun σ H Q ⟨G, z, m, P, F, mr, sr, h, k⟩ => k.ok none m G none H h Stp.refl mr rfl
theorem so_some (h : SB c X e a) : SO c X (some e) (oSome a) := po_weak (po_some h) fun σ H Q ⟨G, z, m, P, F, mr, sr, h, k⟩ => ⟨G, z, m, _, F, mr, sr, h, k.mv Stp.refl fun x1 m1 G1 v1 H1 p1 s1 r1 b1 => by
  split at p1
  · cases vb_int b1; exact ⟨_, rfl, k.ok _ m1 G1 _ H1 p1 s1 r1 rfl⟩
  · exact p1.elim⟩
theorem VRs.cutT {ts : List T} {us : List V} (h : VRs Γ G H ts us) (lo hi : Option Int) : VRs Γ G H (cutT ts lo hi) (cutV us lo hi) := by
  unfold AM.cutT cutV
  rw [h.length]
  exact (h.drop _).take _
theorem cut_tx (l : List Nat) (lo hi : Option Int) : cutS (tx l) lo hi = tx (cutT l lo hi) := by
  unfold cutS cutT
  rw [tx_list, tx_len]; rfl
theorem cut_sub {α : Type} (l : List α) (lo hi : Option Int) : (cutT l lo hi).Sublist l := (List.take_sublist _ _).trans (List.drop_sublist _ _)
theorem se_slice (he : SB c X e a) (hl : SO c X lo al) (hu : SO c X hi ah) : SE c X (.Subscript e (.Slice lo hi none p2) pos) (aSl a al ah) :=
  pe_weak (pe_slice (SlR.or sl_str sl_list) he hl hu) fun σ H Q ⟨G, z, m, P, F, mr, sr, h, k⟩ => ⟨G, z, m, _, F, mr, sr, h, k.mv Stp.refl fun x1 m1 G1 v1 H1 p1 s1 r1 b1 =>
    ⟨G1, z, m1, _, F, r1, sr.step mr.nd s1, p1, k.mv s1 fun i m2 G2 i' H2 p2 s2 r2 e2 => by
      subst e2
      have s12 := s1.trans s2
      refine ⟨G2, z, m2, _, F, r2, sr.step mr.nd s12, p2, k.mv s12 fun j m3 G3 j' H3 p3 s3 r3 e3 => ?_⟩
      subst e3
      have b3 := (b1.step r1.nd s2).step r2.nd s3
      unfold slA at p3
      split at p3
      · obtain ⟨rfl, ok⟩ := vb_str b3
        exact .inl ⟨_, rfl, by rw [tx_len]; exact ok.len, by rw [cut_tx]; exact k.ok _ m3 G3 _ H3 p3 (s12.trans s3) r3 (vr_str.mpr ⟨rfl, ok.sub (cut_sub _ _ _)⟩)⟩
      · split at p3
        · rename_i xs ex
          obtain ⟨q, us, rfl, e4, e5⟩ := rdL r3 b3 ex
          refine .inr ⟨q, us, rfl, e4, fun p np => ?_⟩
          obtain ⟨s4, r4, v4⟩ := new_lst r3 (e5.cutT i j) np
          exact k.ok _ m3 G3 _ _ p3 ((s12.trans s3).trans s4) r4 v4
        · exact p3.elim⟩⟩
theorem sf_slice (he : SB c X e a) (hl : SO c X lo al) (hu : SO c X hi ah) : SF c X (.Subscript e (.Slice lo hi none p2) pos) (aSlF a al ah) :=
  pe_weak (pe_slice sl_list he hl hu) fun σ H Q ⟨G, z, m, P, F, mr, sr, h, k⟩ => ⟨G, z, m, _, F, mr, sr, h, ⟨fun x1 m1 G1 v1 H1 p1 s1 r1 b1 =>
    ⟨G1, z, m1, _, F, r1, sr.step mr.nd s1, p1, ⟨fun i m2 G2 i' H2 p2 s2 r2 e2 => by
      subst e2
      have s12 := s1.trans s2
      refine ⟨G2, z, m2, _, F, r2, sr.step mr.nd s12, p2, ⟨fun j m3 G3 j' H3 p3 s3 r3 e3 => ?_, fun x m' G' H' cc d h1 h2 h3 h4 => k.ex x m' G' H' cc d h1 (s12.trans h2) h3 h4⟩⟩
      subst e3
      have b3 := (b1.step r1.nd s2).step r2.nd s3
      unfold slF at p3
      split at p3
      · rename_i xs ex
        obtain ⟨q, us, rfl, e4, e5⟩ := rdL r3 b3 ex
        exact ⟨q, us, rfl, e4, fun p np => (fsh_of k (s12.trans s3) (fun p np => free_of' r3 (s12.trans s3) np) r3).1 _ _ p p3 (e5.cutT i j) np⟩
      · exact p3.elim, fun x m' G' H' cc d h1 h2 h3 h4 => k.ex x m' G' H' cc d h1 (s1.trans h2) h3 h4⟩⟩, k.ex⟩⟩
end
/-! ## calls of built-ins -/
@[simp] def lenA : AL := fun xs m P => match xs with
  | [x] => (match x with
    | .str l => P (.int l.length) m
    | x => match asS m x with | some ys => P (.int ys.length) m | none => False)
  | _ => False
@[simp] def absA : AL := fun xs m P => match xs with | [.int i] => P (.int (if i < 0 then -i else i)) m | _ => False
@[simp] def max2A : AL := fun xs m P => match xs with | [.int i, .int j] => P (.int (if j > i then j else i)) m | _ => False
@[simp] def min2A : AL := fun xs m P => match xs with | [.int i, .int j] => P (.int (if j < i then j else i)) m | _ => False
@[simp] def intA : AL := fun xs m P => match xs with | [.int i] => P (.int i) m | [.bl b] => P (.int (if b then 1 else 0)) m | _ => False
@[simp] def ordA : AL := fun xs m P => match xs with | [.str [c]] => P (.int c) m | _ => False
def strI (i : Int) : List Nat := q (toString i)
@[simp] def strA : AL := fun xs m P => match xs with | [.int i] => i.natAbs.log2 < 1920 ∧ P (.str (strI i)) m | [.str l] => P (.str l) m | _ => False
@[simp] def divmodA : AL := fun xs m P => match xs with | [.int i, .int j] => CDivP i j ∧ P (.tup [.int (i / j), .int (i % j)]) m | _ => False
@[simp] def listF : AL := fun xs m P => match xs with | [x] => (match asS m x with | some ys => P (.lst ys) m | none => False) | _ => False
@[simp] def tupA : AL := fun xs m P => match xs with | [x] => (match asS m x with | some ys => P (.tup ys) m | none => False) | _ => False
def bools : List T → Option (List Bool)
  | [] => some []
  | .bl b :: ts => (bools ts).map (b :: ·)
  | _ => none
@[simp] theorem bools_map {α : Type} {f : α → Bool} : ∀ {l : List α}, bools (l.map fun x => T.bl (f x)) = some (l.map f)
  | [] => rfl
  | x :: l => by rw [List.map_cons, bools, bools_map]; rfl
theorem bools_eq : ∀ {ts : List T} {bs : List Bool}, bools ts = some bs → ts = bs.map T.bl
  | [], bs, h => by cases h; rfl
  | t :: ts, bs, h => by
    cases t with
    | bl b =>
      rw [bools, Option.map_eq_some_iff] at h
      obtain ⟨r, h1, rfl⟩ := h
      rw [List.map_cons, ← bools_eq h1]
    | _ => cases h
@[simp] def allA : AL := fun xs m P => match xs with | [x] => (match asL m x with | some ts => (match bools ts with | some bs => P (.bl (bs.all id)) m | none => False) | none => False) | _ => False
@[simp] def anyA : AL := fun xs m P => match xs with | [x] => (match asL m x with | some ts => (match bools ts with | some bs => P (.bl (bs.any id)) m | none => False) | none => False) | _ => False
theorem W_rep : ∃ f : T → List Nat, f = fun t => (toD t).shown.cps.toList := ⟨_, rfl⟩
/-- the text that repr tells (shut, so that nothing works it out) -/
noncomputable def rep : T → List Nat := Classical.choose W_rep
theorem rep_eq (t : T) : rep t = (toD t).shown.cps.toList := congrFun (Classical.choose_spec W_rep) t
/-- it may be shown -/
structure Shw (t : T) : Prop where
  sh : (toD t).showable = true
  sz : (rep t).length ≤ sizeLine
@[simp] noncomputable def repA : AL := fun xs m P => match xs with | [x] => (match asS m x with | some _ => Shp 60 (nrm m x) ∧ Shw (nrm m x) ∧ P (.str (rep (nrm m x))) m | none => False) | _ => False
section
variable {Γ : Gm} {X : Cx}
theorem sim_len : SimL Γ (fun xs H Q => ∃ x n, xs = [x] ∧ LenV Γ.K x H n ∧ Q (.int n) H) lenA := by
  intro G m H x v P Q r hx h k
  unfold lenA at h
  split at h
  · obtain ⟨v, rfl, h1⟩ := vbs1 hx
    split at h
    · obtain ⟨rfl, ok⟩ := vb_str h1
      exact ⟨_, _, rfl, ⟨by rw [tx_len]; exact ok.len, rfl⟩, k _ m G _ H h Stp.refl r (vr_int.mpr (by rw [tx_len]))⟩
    · split at h
      · rename_i ys e
        obtain ⟨a, us, rfl, e1, e2⟩ := rdS r h1 e
        refine ⟨_, us.length, rfl, e1.imp (fun z => ⟨us, z, rfl⟩) (fun z => ⟨us, z, rfl⟩), k _ m G _ H h Stp.refl r (vr_int.mpr (by rw [e2.length]))⟩
      · exact h.elim
  · exact h.elim
theorem sim_abs : SimL Γ (fun xs H Q => ∃ i, xs = [.int i] ∧ Q (.int (if i < 0 then -i else i)) H) absA := by
  intro G m H x v P Q r hx h k
  unfold absA at h
  split at h
  · obtain ⟨v, rfl, h1⟩ := vbs1 hx; cases vb_int h1
    exact ⟨_, rfl, k _ m G _ H h Stp.refl r (vr_int.mpr rfl)⟩
  · exact h.elim
theorem sim_max2 : SimL Γ (fun xs H Q => ∃ i j, xs = [.int i, .int j] ∧ Q (.int (if j > i then j else i)) H) max2A := by
  intro G m H x v P Q r hx h k
  unfold max2A at h
  split at h
  · obtain ⟨v, u, rfl, h1, h2⟩ := vbs2 hx; cases vb_int h1; cases vb_int h2
    exact ⟨_, _, rfl, k _ m G _ H h Stp.refl r (vr_int.mpr rfl)⟩
  · exact h.elim
theorem sim_min2 : SimL Γ (fun xs H Q => ∃ i j, xs = [.int i, .int j] ∧ Q (.int (if j < i then j else i)) H) min2A := by
  intro G m H x v P Q r hx h k
  unfold min2A at h
  split at h
  · obtain ⟨v, u, rfl, h1, h2⟩ := vbs2 hx; cases vb_int h1; cases vb_int h2
    exact ⟨_, _, rfl, k _ m G _ H h Stp.refl r (vr_int.mpr rfl)⟩
  · exact h.elim
theorem sim_int : SimL Γ (fun xs H Q => (∃ i, xs = [.int i] ∧ Q (.int i) H) ∨ ∃ k, xs = [.bl k] ∧ Q (.int (if k then 1 else 0)) H) intA := by
  intro G m H x v P Q r hx h k
  unfold intA at h
  split at h
  · obtain ⟨v, rfl, h1⟩ := vbs1 hx; cases vb_int h1
    exact .inl ⟨_, rfl, k _ m G _ H h Stp.refl r (vr_int.mpr rfl)⟩
  · obtain ⟨v, rfl, h1⟩ := vbs1 hx; cases vb_bl h1
    exact .inr ⟨_, rfl, k _ m G _ H h Stp.refl r (vr_int.mpr rfl)⟩
  · exact h.elim
theorem sim_ord : SimL Γ (fun xs H Q => ∃ x, xs = [.str x] ∧ x.length = 1 ∧ Q (.int (x.cps.getD 0 0 : Nat)) H) ordA := by
  intro G m H x v P Q r hx h k
  unfold ordA at h
  split at h
  · obtain ⟨v, rfl, h1⟩ := vbs1 hx
    obtain ⟨rfl, _⟩ := vb_str h1
    exact ⟨_, rfl, rfl, k _ m G _ H h Stp.refl r (vr_int.mpr rfl)⟩
  · exact h.elim
theorem strI_sok {i : Int} (h : i.natAbs.log2 < 1920) : SOk (strI i) := by
  refine ⟨?_, fun c hc => ?_⟩
  · have : (PySem.Str.ofString (toString i)).length ≤ 1922 := by
      have hl := nat_repr_length_le (n := i.natAbs) (k := 1921) (by decide) (by
        by_cases h0 : i.natAbs = 0
        · rw [h0]; decide +kernel
        · exact Nat.lt_of_lt_of_le ((Nat.log2_lt h0).mp (Nat.lt_succ_self _)) (Nat.pow_le_pow_right (by decide) (by omega)))
      rw [← tx_q, tx_len]
      show ((toString i).toList.map Char.toNat).length ≤ 1922
      rw [List.length_map]
      have e : (toString i).toList.length = (toString i).length := rfl
      rw [e]
      cases i with
      | ofNat n => show (Nat.repr n).length ≤ 1922; have : (Int.ofNat n).natAbs = n := rfl; rw [this] at hl; omega
      | negSucc n =>
        have e2 : (toString (Int.negSucc n)) = "-" ++ Nat.repr (n + 1) := rfl
        rw [e2, String.length_append]
        have : (Int.negSucc n).natAbs = n + 1 := rfl
        rw [this] at hl
        have : ("-" : String).length = 1 := rfl
        omega
    rw [← tx_q, tx_len] at this
    exact Nat.le_trans this (by decide)
  · obtain ⟨ch, _, rfl⟩ := List.mem_map.mp hc
    have := ch.valid
    rcases this with h | ⟨_, h⟩
    · exact Nat.lt_trans h (by decide)
    · exact h
theorem sim_str : SimL Γ (fun xs H Q => (∃ i, xs = [.int i] ∧ i.natAbs.log2 < 1920 ∧ Q (.str (toString i)) H) ∨ ∃ a, xs = [.str a] ∧ Q (.str a) H) strA := by
  intro G m H x v P Q r hx h k
  unfold strA at h
  split at h
  · obtain ⟨v, rfl, h1⟩ := vbs1 hx; cases vb_int h1
    exact .inl ⟨_, rfl, h.1, k _ m G _ H h.2 Stp.refl r (vr_str.mpr ⟨by unfold strI; rw [tx_q], strI_sok h.1⟩)⟩
  · obtain ⟨v, rfl, h1⟩ := vbs1 hx
    obtain ⟨rfl, ok⟩ := vb_str h1
    exact .inr ⟨_, rfl, k _ m G _ H h Stp.refl r (vr_str.mpr ⟨rfl, ok⟩)⟩
  · exact h.elim
theorem sim_divmod : SimL Γ (fun xs H Q => ∃ i j, xs = [.int i, .int j] ∧ CDivP i j ∧ ∀ p, H p = none → Q (.ref p) (upd H p (.tup [.int (i / j), .int (i % j)]))) divmodA := by
  intro G m H x v P Q r hx h k
  unfold divmodA at h
  split at h
  · obtain ⟨v, u, rfl, h1, h2⟩ := vbs2 hx; cases vb_int h1; cases vb_int h2
    refine ⟨_, _, rfl, h.1, fun p np => ?_⟩
    obtain ⟨s, r', w⟩ := new_tup r (vrs_cons.mpr ⟨_, _, rfl, vr_int.mpr rfl, VRs.one (vr_int.mpr rfl)⟩) np
    exact k _ m G _ _ h.2 s r' w
  · exact h.elim
theorem sim_listF : SimLF Γ (fun xs H Q => ∃ p ys, xs = [.ref p] ∧ (SqL Γ.K H p ys ∨ SqT Γ.K H p ys) ∧ ∀ l, H l = none → Q (.ref l) (upd H l (.lst ys))) listF := by
  intro G m H x v P Q r hx h k
  unfold listF at h
  split at h
  · obtain ⟨v, rfl, h1⟩ := vbs1 hx
    split at h
    · rename_i ys e
      obtain ⟨a, us, rfl, e1, e2⟩ := rdS r h1 e
      exact ⟨a, us, rfl, e1, fun l nl => k.1 _ _ l h e2 nl⟩
    · exact h.elim
  · exact h.elim
theorem sim_tup : SimL Γ (fun xs H Q => ∃ p ys, xs = [.ref p] ∧ ((SqL Γ.K H p ys ∧ ∀ l, H l = none → Q (.ref l) (upd H l (.tup ys))) ∨ (SqT Γ.K H p ys ∧ Q (.ref p) H))) tupA := by
  intro G m H x v P Q r hx h k
  unfold tupA at h
  split at h
  · rename_i x
    obtain ⟨v, rfl, h1⟩ := vbs1 hx
    have key : ∀ ys, asL m x = some ys → P (.tup ys) m → ∃ p ys, [v] = [V.ref p] ∧ ((SqL Γ.K H p ys ∧ ∀ l, H l = none → Q (.ref l) (upd H l (.tup ys))) ∨ (SqT Γ.K H p ys ∧ Q (.ref p) H)) := fun ys e p => by
      obtain ⟨a, us, rfl, e1, e2⟩ := rdL r h1 e
      refine ⟨a, us, rfl, .inl ⟨e1, fun l nl => ?_⟩⟩
      obtain ⟨s, r', w⟩ := new_tup r e2 nl
      exact k _ m G _ _ p s r' w
    cases x with
    | tup xs =>
      obtain ⟨a, us, rfl, e1, e2⟩ := rdT h1 (ts := xs) rfl
      exact ⟨a, us, rfl, .inr ⟨e1, k _ m G _ H h Stp.refl r (h1.atom fun _ z => z)⟩⟩
    | _ =>
      split at h
      · rename_i ys e; exact key ys e h
      · exact h.elim
  · exact h.elim
theorem sim_all : SimL Γ (rAll Γ.K) allA := by
  intro G m H x v P Q r hx h k
  unfold allA at h
  split at h
  · obtain ⟨v, rfl, h1⟩ := vbs1 hx
    split at h
    · rename_i ts e
      split at h
      · rename_i bs eb
        cases bools_eq eb
        obtain ⟨a, us, rfl, e1, e2⟩ := rdL r h1 e
        rw [VRs.bools.mp e2] at e1
        exact ⟨a, bs, rfl, e1, k _ m G _ H h Stp.refl r (vr_bl.mpr rfl)⟩
      · exact h.elim
    · exact h.elim
  · exact h.elim
theorem sim_any : SimL Γ (rAny Γ.K) anyA := by
  intro G m H x v P Q r hx h k
  unfold anyA at h
  split at h
  · obtain ⟨v, rfl, h1⟩ := vbs1 hx
    split at h
    · rename_i ts e
      split at h
      · rename_i bs eb
        cases bools_eq eb
        obtain ⟨a, us, rfl, e1, e2⟩ := rdL r h1 e
        rw [VRs.bools.mp e2] at e1
        exact ⟨a, bs, rfl, e1, k _ m G _ H h Stp.refl r (vr_bl.mpr rfl)⟩
      · exact h.elim
    · exact h.elim
  · exact h.elim
end
/-! repr of lists and tuples -/
theorem char_lt (ch : Char) : ch.toNat < 1114112 := by
  rcases ch.valid with h | ⟨_, h⟩
  · exact Nat.lt_trans h (by decide)
  · exact h
theorem ofString_ok (s : String) : ∀ c ∈ (PySem.Str.ofString s).cps.toList, c < 1114112 := fun c hc => by
  rw [← tx_q, tx_list] at hc
  obtain ⟨ch, _, rfl⟩ := List.mem_map.mp hc
  exact char_lt ch
def cOk (x : Str) : Prop := ∀ c ∈ x.cps.toList, c < 1114112
theorem cOk.app {a b : Str} (ha : cOk a) (hb : cOk b) : cOk (a ++ b) := fun c hc => by
  obtain ⟨l, rfl⟩ := tx_ex a
  obtain ⟨r, rfl⟩ := tx_ex b
  rw [tx_app, tx_list] at hc
  rcases List.mem_append.mp hc with h | h
  · exact ha c (by rw [tx_list]; exact h)
  · exact hb c (by rw [tx_list]; exact h)
theorem reprChar_ok {qt c : Nat} (hq : qt < 1114112) (hc : c < 1114112) : ∀ d ∈ Builtin.Str.reprChar qt c, d < 1114112 := by
  intro d hd
  have hex : ∀ (w : Nat), ∀ d ∈ List.replicate (w - ((Nat.toDigits 16 c).map Char.toNat).length) 48 ++ (Nat.toDigits 16 c).map Char.toNat, d < 1114112 := fun w d hd => by
    rcases List.mem_append.mp hd with h | h
    · rw [(List.mem_replicate.mp h).2]; decide
    · obtain ⟨ch, _, rfl⟩ := List.mem_map.mp h; exact char_lt ch
  unfold Builtin.Str.reprChar at hd
  simp only [] at hd
  split at hd
  · simp at hd; rcases hd with rfl | rfl <;> omega
  · split at hd
    · simp at hd; rcases hd with rfl | rfl <;> omega
    · split at hd
      · simp at hd; rcases hd with rfl | rfl <;> omega
      · split at hd
        · simp at hd; rcases hd with rfl | rfl <;> omega
        · split at hd
          · simp at hd; omega
          · split at hd
            · rcases List.mem_append.mp hd with h | h
              · simp at h; rcases h with rfl | rfl <;> omega
              · exact hex 2 d h
            · split at hd
              · rcases List.mem_append.mp hd with h | h
                · simp at h; rcases h with rfl | rfl <;> omega
                · exact hex 4 d h
              · rcases List.mem_append.mp hd with h | h
                · simp at h; rcases h with rfl | rfl <;> omega
                · exact hex 8 d h
end AM
set_option maxHeartbeats 4000000
namespace AM
open PySem PySem.Spec PyProof.Rows L2 Eb
/-! repr -/
theorem reprText_ok {x : Str} (h : cOk x) : cOk (reprText x) := by
  obtain ⟨l, rfl⟩ := tx_ex x
  have hq : reprQuote (tx l) < 1114112 := by unfold reprQuote; split <;> decide
  have key : ∀ (r : List Nat) (acc : Array Nat), (∀ c ∈ r, c < 1114112) → (∀ c ∈ acc.toList, c < 1114112) → ∀ c ∈ (r.foldl (fun out c => out ++ (Builtin.Str.reprChar (reprQuote (tx l)) c).toArray) acc).toList, c < 1114112 := by
    intro r
    induction r with
    | nil => intro acc _ h; exact h
    | cons d r ih =>
      intro acc h1 h2
      refine ih _ (fun c hc => h1 c (List.mem_cons_of_mem _ hc)) fun c hc => ?_
      rw [Array.toList_append] at hc
      rcases List.mem_append.mp hc with z | z
      · exact h2 c z
      · exact reprChar_ok hq (h1 d List.mem_cons_self) c (by simpa using z)
  intro c hc
  unfold reprText at hc
  simp only [Array.toList_push] at hc
  rcases List.mem_append.mp hc with z | z
  · have e : (tx l).cps.foldl (fun out c => out ++ (Builtin.Str.reprChar (reprQuote (tx l)) c).toArray) #[reprQuote (tx l)] = l.foldl (fun out c => out ++ (Builtin.Str.reprChar (reprQuote (tx l)) c).toArray) #[reprQuote (tx l)] := by
      show l.toArray.foldl _ _ = _
      rw [List.foldl_toArray]
    rw [e] at z
    refine key l _ (fun c hc => h c (by rw [tx_list]; exact hc)) (fun c hc => ?_) c z
    have : c = reprQuote (tx l) := by simpa using hc
    rw [this]; exact hq
  · have : c = reprQuote (tx l) := by simpa using z
    rw [this]; exact hq
theorem textFrom_ok : ∀ (ts : List Str) (k : Nat) (acc : Str), cOk acc → (∀ t ∈ ts, cOk t) → cOk (textFrom k acc ts)
  | [], _, acc, h, _ => h
  | t :: ts, k, acc, h, ht => textFrom_ok ts (k + 1) _ ((h.app (ofString_ok _)).app (ht t List.mem_cons_self)) fun u hu => ht u (List.mem_cons_of_mem _ hu)
theorem join_ok {sep : Str} (hs : cOk sep) : ∀ ts : List Str, (∀ t ∈ ts, cOk t) → cOk (Str.join sep ts)
  | [], _ => fun c hc => by simp [Str.join, Str.empty] at hc
  | [x], h => h x List.mem_cons_self
  | x :: y :: r, h => ((h x List.mem_cons_self).app hs).app (join_ok hs (y :: r) fun t ht => h t (List.mem_cons_of_mem _ ht))
mutual
theorem shown_ok {Γ : Gm} {G : Gh} {H : Hp} : ∀ {n : Nat} {t : T} {v : V}, Shp n t → VR Γ G H t v → cOk (toD t).shown
  | n, .non, v, s, h => by simp only [toD]; exact ofString_ok _
  | n, .bl b, v, s, h => by simp only [toD, PyData.shown]; split <;> exact ofString_ok _
  | n, .int i, v, s, h => by simp only [toD, PyData.shown]; exact ofString_ok _
  | n, .str l, v, s, h => by
    obtain ⟨_, ok⟩ := vr_str.mp h
    simp only [toD, PyData.shown]
    exact reprText_ok fun c hc => ok.ok c (by rw [tx_list] at hc; exact hc)
  | 0, .lst xs, v, s, h => by simp [Shp] at s
  | 0, .tup xs, v, s, h => by simp [Shp] at s
  | n + 1, .lst xs, v, s, h => by
    obtain ⟨a, us, rfl, _, e, vs⟩ := vr_lst.mp h
    simp only [toD, PyData.shown]
    exact (textFrom_ok _ 0 _ (ofString_ok _) (showns_ok (shp_lst.mp s) vs)).app (ofString_ok _)
  | n + 1, .tup xs, v, s, h => by
    obtain ⟨a, us, rfl, e, vs⟩ := rdT (.inl h) (ts := xs) rfl
    simp only [toD, PyData.shown]
    exact cOk.app (cOk.app (ofString_ok _) (join_ok (ofString_ok _) _ (showns_ok (shp_tup.mp s) vs))) (ofString_ok _)
  | n, .cst _, v, s, h => by cases n <;> simp [Shp] at s
  | n, .scr _, v, s, h => by cases n <;> simp [Shp] at s
  | n, .dct _, v, s, h => by cases n <;> simp [Shp] at s
  | n, .ins _ _, v, s, h => by cases n <;> simp [Shp] at s
  | n, .obj _, v, s, h => by cases n <;> simp [Shp] at s
theorem showns_ok {Γ : Gm} {G : Gh} {H : Hp} : ∀ {n : Nat} {ts : List T} {vs : List V}, Shps n ts → VRs Γ G H ts vs → ∀ x ∈ PyData.shownAll (toDs ts), cOk x
  | n, [], vs, s, h => by simp only [toDs, PyData.shownAll]; intro x hx; cases hx
  | n, t :: ts, vs, s, h => by
    obtain ⟨v, r, rfl, h1, h2⟩ := vrs_cons.mp h
    simp only [toDs, PyData.shownAll]
    intro x hx
    rcases List.mem_cons.mp hx with e | e
    · rw [e]; exact shown_ok (shps_cons.mp s).1 h1
    · exact showns_ok (shps_cons.mp s).2 h2 x e
end
def rRepA (K : PySem.W.Frag) : List V → Hp → VK → Prop := fun xs H Q => ∃ (a : Addr) (d : PyData), xs = [.ref a] ∧ Dp K H (.ref a) d ∧ d.showable = true ∧ d.canLay0 = true ∧ d.depth ≤ 60 ∧ d.shown.length ≤ sizeLine ∧ Q (.str d.shown) H
section
variable {X : Cx} {Γ : Gm}
theorem call_repA {k : Nat} (g : X.A.guards = some []) (hr : Room k X.A) : CallR X (.builtin "repr") (rRepA X.K) := by
  intro pins s σ H xs us Q I r h
  obtain ⟨a, d, rfl, hd, S1, S2, S3, S4, q⟩ := h
  obtain ⟨u, rfl, e⟩ := vals1 r
  cases (show u = Value.ref a from e)
  obtain ⟨as, rd⟩ := Dp.reads I d (.ref a) (.ref a) hd rfl
  have un := hr.un
  refine repr_of_reads' rd S1 (fun z => by rw [PyData.hasDict_of_canLay d S2] at z; cases z) g (by omega) (fun _ _ e => e) (fun h' t tk hk => ?_) S4
  exact ⟨.str d.shown, H, I.kept hk, ⟨t, rfl⟩, q⟩
theorem sim_rep : SimL Γ (rRepA Γ.K) repA := by
  intro G m H x v P Q r hx h k
  unfold repA at h
  split at h
  · rename_i x
    obtain ⟨v, rfl, h1⟩ := vbs1 hx
    split at h
    · rename_i ys e
      obtain ⟨hs, hw, p⟩ := h
      obtain ⟨a, us, rfl, e1, e2⟩ := rdS r h1 e
      obtain ⟨a1, a2, a3⟩ := dp_nrm r h1 hs
      have hl : (toD (nrm m x)).shown.length = (rep (nrm m x)).length := by rw [rep_eq]; simp [Str.length]
      have et : (toD (nrm m x)).shown = tx (rep (nrm m x)) := by rw [rep_eq]; exact (tx_of _).symm
      have ck : cOk (toD (nrm m x)).shown := by
        have hn : ∀ ts, nrm m x = .lst ts → VRs Γ G H ts us → cOk (toD (nrm m x)).shown := fun ts en vs => by
          rw [en] at hs ⊢
          simp only [toD, PyData.shown]
          exact (textFrom_ok _ 0 _ (ofString_ok _) (showns_ok (shp_lst.mp hs) vs)).app (ofString_ok _)
        cases x with
        | lst xs => cases (show xs = ys from Option.some.inj e); exact hn _ rfl e2
        | obj n =>
          have e' : asX m (.obj n) = some ys := e
          simp only [asX] at e'
          split at e'
          · rename_i zs ez
            cases e'
            exact hn _ (by simp [nrm, ez]) e2
          · cases e'
        | tup xs => exact shown_ok hs (h1.atom fun _ z => z)
        | scr ns => simp only [nrm] at hs; simp [Shp] at hs
        | _ => cases e
      refine ⟨a, _, rfl, a1, hw.sh, a2, a3, by rw [hl]; exact hw.sz, k _ m G _ H p Stp.refl r (vr_str.mpr ⟨by rw [et], hw.sz, fun c hc => ck c (by rw [rep_eq] at hc; exact hc)⟩)⟩
    · exact h.elim
  · exact h.elim
end
/-! ## join -/
def strs' : List T → Option (List (List Nat))
  | [] => some []
  | .str b :: ts => (strs' ts).map (b :: ·)
  | _ => none
@[simp] theorem strs_map {α : Type} {f : α → List Nat} : ∀ {l : List α}, strs' (l.map fun x => T.str (f x)) = some (l.map f)
  | [] => rfl
  | x :: l => by rw [List.map_cons, strs', strs_map]; rfl
@[simp] theorem strs_map' : ∀ {l : List (List Nat)}, strs' (l.map T.str) = some l
  | [] => rfl
  | x :: l => by rw [List.map_cons, strs', strs_map']; rfl
theorem strs_eq : ∀ {ts : List T} {bs : List (List Nat)}, strs' ts = some bs → ts = bs.map T.str
  | [], bs, h => by cases h; rfl
  | t :: ts, bs, h => by
    cases t with
    | str b =>
      rw [strs', Option.map_eq_some_iff] at h
      obtain ⟨r, h1, rfl⟩ := h
      rw [List.map_cons, ← strs_eq h1]
    | _ => cases h
def joinT (sep : List Nat) : List (List Nat) → List Nat
  | [] => []
  | [x] => x
  | x :: r => x ++ sep ++ joinT sep r
theorem tx_join (sep : List Nat) : ∀ ls : List (List Nat), Txt.join (tx sep) (ls.map tx) = tx (joinT sep ls) := by
  intro ls
  rw [txt_join]
  induction ls with
  | nil => rfl
  | cons x r ih =>
    cases r with
    | nil => rfl
    | cons y r =>
      show tx x ++ tx sep ++ Str.join (tx sep) ((y :: r).map tx) = tx (x ++ sep ++ joinT sep (y :: r))
      rw [ih, tx_app, tx_app]
theorem joinT_mem {sep : List Nat} {c : Nat} : ∀ {ls : List (List Nat)}, c ∈ joinT sep ls → c ∈ sep ∨ ∃ l ∈ ls, c ∈ l
  | [], h => by cases h
  | [x], h => .inr ⟨x, List.mem_cons_self, h⟩
  | x :: y :: r, h => by
    rw [joinT] at h
    · rcases List.mem_append.mp h with h | h
      · rcases List.mem_append.mp h with h | h
        · exact .inr ⟨x, List.mem_cons_self, h⟩
        · exact .inl h
      · rcases joinT_mem h with h | ⟨l, h1, h2⟩
        · exact .inl h
        · exact .inr ⟨l, List.mem_cons_of_mem _ h1, h2⟩
    · simp
theorem joinT_len {sep : List Nat} : ∀ ls : List (List Nat), (joinT sep ls).length ≤ (ls.map List.length).sum + ls.length * sep.length
  | [] => by simp [joinT]
  | [x] => by simp [joinT]
  | x :: y :: r => by
    have ih := joinT_len (sep := sep) (y :: r)
    rw [joinT, List.length_append, List.length_append, List.map_cons, List.sum_cons, List.length_cons, Nat.succ_mul]
    · omega
    · simp
@[simp] def joinA : T → List T → Mem → PX → Prop := fun x xs m P => match x, xs with
  | .str sep, [y] => (match asS m y with
    | some ts => (match strs' ts with | some ls => (ls.map List.length).sum + ls.length * sep.length ≤ 16777216 ∧ P (.str (joinT sep ls)) m | none => False)
    | none => False)
  | _, _ => False
/-- o.m(..) of a built-in type -/
@[simp] def aBM (f : T → List T → Mem → PX → Prop) (a : AE) (l : AA) : AE := fun z m P F => a z m (fun x m1 => l z m1 (fun xs m2 => f x xs m2 P) F) F
def SimM (Γ : Gm) (Ty : String) (r : V → List V → Hp → VK → Prop) (f : T → List T → Mem → PX → Prop) : Prop := ∀ G m H x xs v vs (P : PX) (Q : VK), MR Γ G m H → VB Γ G H x v → VBs Γ G H xs vs → f x xs m P → (∀ t m' G' w H', P t m' → Stp G H G' H' → MR Γ G' m' H' → VR Γ G' H' t w → Q w H') → r v vs H Q
/-- which receivers are of the type -/
def isTy (Ty : String) (m : Mem) (x : T) : Prop := match Ty, x with
  | "str", .str _ => True
  | "list", x => (asL m x).isSome = true
  | _, _ => False
theorem ty_of {Γ : Gm} {G : Gh} {H : Hp} {m : Mem} {x : T} {v : V} {Ty : String} (r : MR Γ G m H) (h : VB Γ G H x v) (t : isTy Ty m x) : tyV Γ.K Ty v H := by
  unfold isTy at t
  split at t
  · obtain ⟨rfl, _⟩ := vb_str h; rfl
  · obtain ⟨ts, e⟩ := Option.isSome_iff_exists.mp t
    obtain ⟨a, us, rfl, e1, e2⟩ := rdL r h e
    exact .inl ⟨rfl, us, e1⟩
  · exact t.elim
@[simp] def aBMt (Ty : String) (f : T → List T → Mem → PX → Prop) (a : AE) (l : AA) : AE := fun z m P F => a z m (fun x m1 => isTy Ty m1 x ∧ l z m1 (fun xs m2 => f x xs m2 P) F) F
section
variable {c : Cl} {X : Cx} {e o : Expr} {es : List Expr} {a : AE} {l : AA} {Γ : Gm}
theorem se_bm {Ty : String} {r : V → List V → Hp → VK → Prop} {f : T → List T → Mem → PX → Prop} (mk : ∀ {to : TE} {t : TA}, PE X o to → PA X es t → PE X e (tBM X.K Ty r to t)) (S : SimM (go X c.cls) Ty r f) (ho : SB c X o a) (ha : SAB c X es l) : SE c X e (aBMt Ty f a l) :=
  pe_weak (mk ho ha) fun σ H Q ⟨G, z, m, P, F, mr, sr, h, k⟩ => ⟨G, z, m, _, F, mr, sr, h, k.mv Stp.refl fun x1 m1 G1 v1 H1 p1 s1 r1 b1 =>
    ⟨ty_of r1 b1 p1.1, G1, z, m1, _, F, r1, sr.step mr.nd s1, p1.2, k.mv s1 fun x2 m2 G2 v2 H2 p2 s2 r2 b2 => S G2 m2 H2 x1 x2 v1 v2 P Q r2 (b1.step r1.nd s2) b2 p2 fun t m' G' w H' p s r v => k.ok t m' G' w H' p ((s1.trans s2).trans s) r v⟩⟩
theorem se_bm0 {Ty : String} {r : V → List V → Hp → VK → Prop} {f : T → List T → Mem → PX → Prop} (mk : ∀ {to : TE}, PE X o to → PE X e (tBM0 X.K Ty r to)) (S : SimM (go X c.cls) Ty r f) (ho : SB c X o a) : SE c X e (aBMt Ty f a aNil) :=
  pe_weak (mk ho) fun σ H Q ⟨G, z, m, P, F, mr, sr, h, k⟩ => ⟨G, z, m, _, F, mr, sr, h, k.mv Stp.refl fun x1 m1 G1 v1 H1 p1 s1 r1 b1 =>
    ⟨ty_of r1 b1 p1.1, S G1 m1 H1 x1 [] v1 [] P Q r1 b1 .nil p1.2 fun t m' G' w H' p s r v => k.ok t m' G' w H' p (s1.trans s) r v⟩⟩
theorem sim_join : SimM Γ "str" (fun x xs H Q => ∃ a p, ∃ ys : List Str, x = .str a ∧ xs = [.ref p] ∧ (SqL Γ.K H p (ys.map V.str) ∨ SqT Γ.K H p (ys.map V.str)) ∧
    (ys.map (·.length)).sum + ys.length * a.length ≤ 16777216 ∧ Q (.str (Txt.join a ys)) H) joinA := by
  intro G m H x xs v vs P Q r hx hxs h k
  unfold joinA at h
  split at h
  · rename_i sep y
    obtain ⟨w, rfl, hy⟩ := vbs1 hxs
    obtain ⟨rfl, ok⟩ := vb_str hx
    split at h
    · rename_i ts e
      split at h
      · rename_i ls el
        cases strs_eq el
        obtain ⟨a, us, rfl, e1, e2⟩ := rdS r hy e
        have eu := VRs.strs e2
        have eu' : us = (ls.map tx).map V.str := by rw [eu, List.map_map]; rfl
        rw [eu'] at e1
        have e3 : (ls.map tx).map (·.length) = ls.map List.length := by rw [List.map_map]; exact List.map_congr_left fun l _ => tx_len l
        refine ⟨tx sep, a, ls.map tx, rfl, rfl, e1, by rw [e3, List.length_map, tx_len]; exact h.1, ?_⟩
        rw [tx_join]
        refine k _ m G _ H h.2 Stp.refl r (vr_str.mpr ⟨rfl, Nat.le_trans (joinT_len ls) (Nat.le_trans h.1 (by decide)), fun c hc => ?_⟩)
        rcases joinT_mem hc with z | ⟨l, z1, z2⟩
        · exact ok.ok c z
        · obtain ⟨i, hi, ei⟩ := List.getElem_of_mem z1
          have : (ls.map T.str)[i]? = some (.str l) := by rw [List.getElem?_map, List.getElem?_eq_getElem hi, ei]; rfl
          obtain ⟨v, _, vv⟩ := e2.get this
          exact (vr_str.mp vv).2.ok c z2
      · exact h.elim
    · exact h.elim
  · exact h.elim
end
end AM
set_option maxHeartbeats 4000000
namespace AM
open PySem PySem.Spec PyProof.Rows L2 Eb
/-! ## iteration by values -/
section
variable {X : Cx} {tg e : Expr}
def rIt (K : PySem.W.Frag) (x : V) (H : Hp) (R : It → Hp → Prop) : Prop :=
  (∃ a, x = .ref a ∧ (∃ xs, SqL K H a xs) ∧ R (Itl K a) H) ∨ (∃ a, x = .ref a ∧ (∃ xs, SqT K H a xs) ∧ R (Itt K a) H) ∨ ∃ z, x = .str z ∧ R (Its z) H
theorem pi_any {te : TE} (he : PE X e te) : PI X tg e (fun σ H R => te σ H fun x H1 => rIt X.K x H1 R) := by
  refine ⟨fun pins s σ H R I h => ?_⟩
  refine thn (he.run pins s σ H _ I h) fun v s1 ⟨x, H1, I1, r1, q1⟩ => ?_
  rcases q1 with ⟨a, rfl, ⟨xs, hq⟩, q⟩ | ⟨a, rfl, ⟨xs, hq⟩, q⟩ | ⟨x, rfl, q⟩
  · cases r1
    obtain ⟨its, rv, p, hz⟩ := I1.list hq
    refine wpAny_pyIter_list p.isList ?_
    refine ⟨s1.heap.objs.size, [s1.heap.objs.size], _, _, H1, rfl, I1.kept (t' := s1.toks) fun b o e => Heap.get?_push_of_some _ e, turn_list a _, ⟨_, Heap.get?_push_size _ rfl, rfl, rfl⟩, fun b hb => ?_, q⟩
    have e : b = s1.heap.objs.size := by simpa using hb
    subst e
    exact I1.fpOk (Nat.le_refl _) (I1.hok.fresh (Nat.le_refl _))
  · cases r1
    obtain ⟨its, rv, p, hz⟩ := I1.tuple hq
    refine wpAny_pyIter_tuple (show s1.heap.IsTuple a its.toArray from p) ?_
    refine ⟨s1.heap.objs.size, [s1.heap.objs.size], _, _, H1, rfl, I1.kept (t' := s1.toks) fun b o e => Heap.get?_push_of_some _ e, turn_tuple a _, ⟨_, Heap.get?_push_size _ rfl, rfl, rfl⟩, fun b hb => ?_, q⟩
    have e : b = s1.heap.objs.size := by simpa using hb
    subst e
    exact I1.fpOk (Nat.le_refl _) (I1.hok.fresh (Nat.le_refl _))
  · obtain ⟨t, rfl⟩ := r1
    cases ha : x.cps.all (· < 128)
    · exact wpAny_pyIter_wide ha (pi_one (tk := s1.toks) I1 _ (turn_str _ x t "str_iterator" (.inr rfl)) ⟨_, Heap.get?_push_size _ rfl, rfl, rfl⟩ q)
    · exact wpAny_pyIter_ascii ha (pi_one (tk := s1.toks) I1 _ (turn_str _ x t "str_ascii_iterator" (.inl rfl)) ⟨_, Heap.get?_push_size _ rfl, rfl, rfl⟩ q)
end
/-- what must stay while t is walked -/
def okW (t : T) (m : Mem) : Mem → Prop := match t with
  | .obj n => fun m' => m'[n]? = m[n]?
  | _ => fun _ => True
@[simp] theorem okW_lst {xs : List T} {m m' : Mem} : okW (.lst xs) m m' := by simp [okW]
@[simp] theorem okW_tup {xs : List T} {m m' : Mem} : okW (.tup xs) m m' := by simp [okW]
@[simp] theorem okW_str {xs : List Nat} {m m' : Mem} : okW (.str xs) m m' := by simp [okW]
@[simp] theorem okW_scr {xs : List Int} {m m' : Mem} : okW (.scr xs) m m' := by simp [okW]
@[simp] theorem okW_obj {n : Nat} {m m' : Mem} : okW (.obj n) m m' ↔ m'[n]? = m[n]? := by simp [okW]
/-- the items of a tree that is walked -/
def itm (m : Mem) : T → Option (List T)
  | .str l => some (l.map fun c => .str [c])
  | t => asS m t
@[simp] def iA (a : AE) : AI := fun z m P F => a z m (fun t m1 => match itm m1 t with | some ts => P ts (okW t m1) m1 | none => False) F
def rngT (lo : Int) (n : Nat) : List T := (List.range n).map fun i : Nat => T.int (lo + (i : Int))
@[simp] theorem rngT_len {lo : Int} {n : Nat} : (rngT lo n).length = n := by simp [rngT]
theorem rngT_get {lo : Int} {n i : Nat} (h : i < n) : (rngT lo n)[i]? = some (.int (lo + (i : Int))) := by unfold rngT; rw [List.getElem?_map, List.getElem?_range h]; rfl
@[simp] def iR1 (a : AA) : AI := fun z m P F => a z m (fun ts m1 => match ts with | [.int j] => -(2 ^ 62) ≤ j ∧ j < 2 ^ 62 ∧ P (rngT 0 j.toNat) (fun _ => True) m1 | _ => False) F
@[simp] def iR2 (a : AA) : AI := fun z m P F => a z m (fun ts m1 => match ts with | [.int i, .int j] => (-(2 ^ 62) ≤ i ∧ i < 2 ^ 62 ∧ -(2 ^ 62) ≤ j ∧ j < 2 ^ 62) ∧ P (rngT i (j - i).toNat) (fun _ => True) m1 | _ => False) F
def prs (l : List T) (i : Nat) : List T := match l with | [] => [] | x :: r => .tup [.int i, x] :: prs r (i + 1)
@[simp] def iE (a : AA) : AI := fun z m P F => a z m (fun ts m1 => match ts with | [t] => (match asL m1 t with | some xs => P (prs xs 0) (okW t m1) m1 | none => False) | _ => False) F
@[simp] def iES (a : AA) : AI := fun z m P F => a z m (fun ts m1 => match ts with | [.str l] => P (prs (l.map fun c => .str [c]) 0) (fun _ => True) m1 | _ => False) F
@[simp] def iZ (a : AA) : AI := fun z m P F => a z m (fun ts m1 => match ts with | [t, u] => (match asL m1 t, asL m1 u with | some xs, some ys => P ((xs.zip ys).map fun p => .tup [p.1, p.2]) (fun m => okW t m1 m ∧ okW u m1 m) m1 | _, _ => False) | _ => False) F
theorem prs_get : ∀ (l : List T) (k i : Nat), (prs l k)[i]? = (l[i]?).map fun x => .tup [.int ((k + i : Nat) : Int), x]
  | [], _, _ => by simp [prs]
  | x :: r, k, 0 => by simp [prs]
  | x :: r, k, i + 1 => by
    rw [prs, List.getElem?_cons_succ, List.getElem?_cons_succ, prs_get r (k + 1) i, show k + 1 + i = k + (i + 1) by omega]
theorem prs_len : ∀ (l : List T) (k : Nat), (prs l k).length = l.length
  | [], _ => rfl
  | x :: r, k => by rw [prs, List.length_cons, List.length_cons, prs_len]
section
variable {Γ : Gm} {G G' : Gh} {H H' : Hp} {v u : V} {m : Mem} {t : T} {Rc : Rch}
/-- the list behind t is still there, later on -/
def Keeps (Rc : Rch) : Prop := (∀ G H G' H', Rc G H G' H' → Go G H G' H')
theorem rdL_later {ts : List T} {us : List V} {a : Addr} (r : MR Γ G m H) (h : VR Γ G H t v) (e : asL m t = some ts) (ev : v = .ref a) (eq : SqL Γ.K H a us) (vs : VRs Γ G H ts us) :
    ∀ G1 H1 m1, Go G H G1 H1 → MR Γ G1 m1 H1 → okW t m m1 → ∃ us1, SqL Γ.K H1 a us1 ∧ VRs Γ G1 H1 ts us1 := fun G1 H1 m1 g r1 o => by
  have h1 := h.go g
  have e1 : asL m1 t = some ts := by
    cases t with
    | obj n =>
      have o : m1[n]? = m[n]? := okW_obj.mp o
      simp only [asL, asX] at e ⊢
      rw [o]; exact e
    | _ => exact e
  obtain ⟨b, ws, e2, e3, e4⟩ := rdL r1 (.inl h1) e1
  rw [ev] at e2
  cases e2
  exact ⟨ws, e3, e4⟩
theorem Walk.toT {J : It} {ts : List T} {ok : Mem → Prop} (hg : ∀ i G1 H1 m1, i < ts.length → Go G H G1 H1 → MR Γ G1 m1 H1 → ok m1 → J.go i H1) (hs : ∀ G1 H1 m1, Go G H G1 H1 → MR Γ G1 m1 H1 → ok m1 → J.stop ts.length H1)
    (hy : ∀ i G1 H1 m1 x H2 t, ts[i]? = some t → Go G H G1 H1 → MR Γ G1 m1 H1 → ok m1 → J.yld i H1 x H2 → Stp G1 H1 G1 H2 ∧ MR Γ G1 m1 H2 ∧ VR Γ G1 H2 t x) : WalkT Γ Go J ts ok G H := ⟨hg, hs, hy⟩
theorem walk_L {ts : List T} {a : Addr} {ok : Mem → Prop} (h : ∀ G1 H1 m1, Go G H G1 H1 → MR Γ G1 m1 H1 → ok m1 → ∃ us1, SqL Γ.K H1 a us1 ∧ VRs Γ G1 H1 ts us1) : WalkT Γ Go (Itl Γ.K a) ts ok G H :=
  ⟨fun i G1 H1 m1 hi g r o => let ⟨us, e1, e2⟩ := h G1 H1 m1 g r o; ⟨us, us[i]'(by rw [e2.length]; exact hi), e1, List.getElem?_eq_getElem _⟩, fun G1 H1 m1 g r o => let ⟨us, e1, e2⟩ := h G1 H1 m1 g r o; ⟨us, e1, Nat.le_of_eq e2.length⟩, fun i G1 H1 m1 x H2 t et g r o y => by
    obtain ⟨us, e1, e2⟩ := h G1 H1 m1 g r o
    obtain ⟨rfl, y⟩ := y
    obtain ⟨w, e3, e4⟩ := e2.get et
    rw [y us e1] at e3
    cases e3
    exact ⟨Stp.refl, r, e4⟩⟩
theorem walk_T {ts : List T} {a : Addr} {ok : Mem → Prop} (h : ∀ G1 H1 m1, Go G H G1 H1 → MR Γ G1 m1 H1 → ok m1 → ∃ us1, SqT Γ.K H1 a us1 ∧ VRs Γ G1 H1 ts us1) : WalkT Γ Go (Itt Γ.K a) ts ok G H :=
  ⟨fun i G1 H1 m1 hi g r o => let ⟨us, e1, e2⟩ := h G1 H1 m1 g r o; ⟨us, us[i]'(by rw [e2.length]; exact hi), e1, List.getElem?_eq_getElem _⟩, fun G1 H1 m1 g r o => let ⟨us, e1, e2⟩ := h G1 H1 m1 g r o; ⟨us, e1, Nat.le_of_eq e2.length⟩, fun i G1 H1 m1 x H2 t et g r o y => by
    obtain ⟨us, e1, e2⟩ := h G1 H1 m1 g r o
    obtain ⟨rfl, y⟩ := y
    obtain ⟨w, e3, e4⟩ := e2.get et
    rw [y us e1] at e3
    cases e3
    exact ⟨Stp.refl, r, e4⟩⟩
theorem walk_S {l : List Nat} {ok : Mem → Prop} (hok : SOk l) : WalkT Γ Go (Its (tx l)) (l.map fun c => .str [c]) ok G H :=
  ⟨fun i _ _ _ hi _ _ _ => by show i < (tx l).cps.size; rw [tx_size]; simpa using hi, fun _ _ _ _ _ _ => by show (tx l).cps.size ≤ _; rw [tx_size]; simp, fun i G1 H1 m1 x H2 t et g r o y => by
    obtain ⟨rfl, c, ec, rfl⟩ := y
    rw [tx_get] at ec
    rw [List.getElem?_map, ec] at et
    cases et
    refine ⟨Stp.refl, r, vr_str.mpr ⟨rfl, (show 1 ≤ sizeLine by decide), fun d hd => ?_⟩⟩
    cases List.mem_singleton.mp hd
    exact hok.ok c (List.mem_of_getElem? ec)⟩
theorem walk_R {lo : Int} {n : Nat} {ok : Mem → Prop} : WalkT Γ Go (Itr lo n) (rngT lo n) ok G H :=
  ⟨fun i _ _ _ hi _ _ _ => by show i < n; simpa using hi, fun _ _ _ _ _ _ => by show n ≤ _; simp, fun i G1 H1 m1 x H2 t et g r o y => by
    obtain ⟨rfl, rfl⟩ := y
    have hi : i < n := by have := (List.getElem?_eq_some_iff.mp et).1; simpa using this
    rw [rngT_get hi] at et
    cases et
    exact ⟨Stp.refl, r, vr_int.mpr rfl⟩⟩
theorem walk_E {ts : List T} {a : Addr} {ok : Mem → Prop} (h : ∀ G1 H1 m1, Go G H G1 H1 → MR Γ G1 m1 H1 → ok m1 → ∃ us1, SqL Γ.K H1 a us1 ∧ VRs Γ G1 H1 ts us1) : WalkT Γ Go (Ite Γ.K a) (prs ts 0) ok G H :=
  ⟨fun i G1 H1 m1 hi g r o => let ⟨us, e1, e2⟩ := h G1 H1 m1 g r o; ⟨us, us[i]'(by rw [e2.length, ← prs_len ts 0]; exact hi), e1, List.getElem?_eq_getElem _⟩, fun G1 H1 m1 g r o => let ⟨us, e1, e2⟩ := h G1 H1 m1 g r o; ⟨us, e1, Nat.le_of_eq (by rw [e2.length, prs_len])⟩, fun i G1 H1 m1 x H2 t et g r o y => by
    obtain ⟨us, e1, e2⟩ := h G1 H1 m1 g r o
    obtain ⟨T', x', rfl, nT, rfl, y⟩ := y
    rw [prs_get] at et
    cases q : ts[i]? with
    | none => rw [q] at et; cases et
    | some w =>
      rw [q] at et
      cases et
      obtain ⟨w', e3, e4⟩ := e2.get q
      rw [y us e1] at e3
      cases e3
      have := new_tup r (vrs_cons.mpr ⟨V.int (i : Nat), _, rfl, vr_int.mpr rfl, VRs.one e4⟩) nT
      simpa using this⟩
theorem walk_ES {l : List Nat} {ok : Mem → Prop} (hok : SOk l) : WalkT Γ Go (Ites (tx l)) (prs (l.map fun c => .str [c]) 0) ok G H :=
  ⟨fun i _ _ _ hi _ _ _ => by show i < (tx l).cps.size; rw [tx_size]; rw [prs_len] at hi; simpa using hi, fun _ _ _ _ _ _ => by show (tx l).cps.size ≤ _; rw [tx_size, prs_len]; simp, fun i G1 H1 m1 x H2 t et g r o y => by
    obtain ⟨T', c, rfl, nT, rfl, ec⟩ := y
    rw [tx_get] at ec
    rw [prs_get, List.getElem?_map, ec] at et
    cases et
    have vc : VR Γ G1 H1 (.str [c]) (.str ⟨#[c]⟩) := vr_str.mpr ⟨rfl, (show 1 ≤ sizeLine by decide), fun d hd => by cases List.mem_singleton.mp hd; exact hok.ok c (List.mem_of_getElem? ec)⟩
    have := new_tup r (vrs_cons.mpr ⟨V.int (i : Nat), _, rfl, vr_int.mpr rfl, VRs.one vc⟩) nT
    simpa using this⟩
theorem walk_Z {ts ws : List T} {a b : Addr} {ok1 ok2 : Mem → Prop} (h : ∀ G1 H1 m1, Go G H G1 H1 → MR Γ G1 m1 H1 → ok1 m1 → ∃ us1, SqL Γ.K H1 a us1 ∧ VRs Γ G1 H1 ts us1) (h' : ∀ G1 H1 m1, Go G H G1 H1 → MR Γ G1 m1 H1 → ok2 m1 → ∃ us1, SqL Γ.K H1 b us1 ∧ VRs Γ G1 H1 ws us1) :
    WalkT Γ Go (Itz Γ.K a b) ((ts.zip ws).map fun p => .tup [p.1, p.2]) (fun m => ok1 m ∧ ok2 m) G H := by
  have el : ((ts.zip ws).map fun p => T.tup [p.1, p.2]).length = min ts.length ws.length := by rw [List.length_map, List.length_zip]
  refine ⟨fun i G1 H1 m1 hi g r o => ?_, fun G1 H1 m1 g r o => ?_, fun i G1 H1 m1 x H2 t et g r o y => ?_⟩
  · obtain ⟨us, e1, e2⟩ := h G1 H1 m1 g r o.1
    obtain ⟨us', e1', e2'⟩ := h' G1 H1 m1 g r o.2
    rw [el] at hi
    exact ⟨us, us', us[i]'(by rw [e2.length]; omega), us'[i]'(by rw [e2'.length]; omega), e1, e1', List.getElem?_eq_getElem _, List.getElem?_eq_getElem _⟩
  · obtain ⟨us, e1, e2⟩ := h G1 H1 m1 g r o.1
    obtain ⟨us', e1', e2'⟩ := h' G1 H1 m1 g r o.2
    refine ⟨us, us', e1, e1', ?_⟩
    rw [el, e2.length, e2'.length]; omega
  · obtain ⟨us, e1, e2⟩ := h G1 H1 m1 g r o.1
    obtain ⟨us', e1', e2'⟩ := h' G1 H1 m1 g r o.2
    obtain ⟨T', x1, x2, rfl, nT, rfl, y1, y2⟩ := y
    rw [List.getElem?_map] at et
    cases q : (ts.zip ws)[i]? with
    | none => rw [q] at et; cases et
    | some w =>
      rw [q] at et
      cases et
      obtain ⟨w1, w2⟩ := w
      rw [List.getElem?_zip_eq_some] at q
      obtain ⟨z1, e3, e4⟩ := e2.get q.1
      obtain ⟨z2, e5, e6⟩ := e2'.get q.2
      rw [y1 us e1] at e3
      rw [y2 us' e1'] at e5
      cases e3; cases e5
      exact new_tup r (vrs_cons.mpr ⟨_, _, rfl, e4, VRs.one e6⟩) nT
end
section
variable {c : Cl} {X : Cx} {tg e e2 : Expr} {a b : AE} {l : AA} {p pos tpos : Pos} {elts : List Expr} {kk : Nat}
theorem si_any (he : SE c X e a) : SI c X tg e (iA a) := pi_weak (pi_any he) fun σ H R ⟨G, z, m, P, F, mr, sr, h, k⟩ => ⟨G, z, m, _, F, mr, sr, h, ⟨fun t m1 G1 v H1 p1 s1 r1 vr => by
  split at p1
  · rename_i ts et
    cases t with
    | str l =>
      obtain ⟨rfl, ok⟩ := vr_str.mp vr
      cases (show (l.map fun c => T.str [c]) = ts from Option.some.inj et)
      exact .inr (.inr ⟨_, rfl, k.ok _ _ m1 G1 H1 _ p1 s1 r1 (walk_S ok)⟩)
    | tup xs =>
      obtain ⟨a', us, e3, e4, e5⟩ := rdT (.inl vr) (ts := xs) rfl
      have ets : xs = ts := Option.some.inj et
      subst ets
      refine .inr (.inl ⟨a', e3, ⟨us, e4⟩, k.ok _ _ m1 G1 H1 _ p1 s1 r1 (walk_T fun G2 H2 m2 g r2 _ => ?_)⟩)
      obtain ⟨b, ws, e6, e7, e8⟩ := rdT (.inl (vr.go g)) (ts := xs) rfl
      rw [e3] at e6
      cases e6
      exact ⟨ws, e7, e8⟩
    | _ =>
      obtain ⟨a', us, e3, e4, e5⟩ := rdL r1 (.inl vr) (ts := ts) et
      exact .inl ⟨a', e3, ⟨us, e4⟩, k.ok _ _ m1 G1 H1 _ p1 s1 r1 (walk_L (rdL_later r1 vr et e3 e4 e5))⟩
  · exact p1.elim, k.ex⟩⟩
theorem si_r1 (hg : Gl X "range") (hm : X.mg "range" = none) (ha : SAB c X [e] l) (hs : starEach [e] X.env = [(false, eval e X.env)] := by rfl) : SI c X tg (.Call (.Name "range" p) [e] [] pos) (iR1 l) :=
  pi_weak (pi_range1 hg hm ha hs) fun σ H R ⟨G, z, m, P, F, mr, sr, h, k⟩ => ⟨G, z, m, _, F, mr, sr, h, ⟨fun ts m1 G1 v H1 p1 s1 r1 vr => by
    split at p1
    · obtain ⟨w, rfl, hw⟩ := vbs1 vr
      cases vb_int hw
      exact ⟨_, rfl, p1.1, p1.2.1, k.ok _ _ m1 G1 H1 _ p1.2.2 s1 r1 walk_R⟩
    · exact p1.elim, k.ex⟩⟩
theorem si_r2 (hg : Gl X "range") (hm : X.mg "range" = none) (ha : SAB c X [e, e2] l) (hs : starEach [e, e2] X.env = [(false, eval e X.env), (false, eval e2 X.env)] := by rfl) (hs2 : starEach [e2] X.env = [(false, eval e2 X.env)] := by rfl) : SI c X tg (.Call (.Name "range" p) [e, e2] [] pos) (iR2 l) :=
  pi_weak (pi_range2 hg hm ha hs hs2) fun σ H R ⟨G, z, m, P, F, mr, sr, h, k⟩ => ⟨G, z, m, _, F, mr, sr, h, ⟨fun ts m1 G1 v H1 p1 s1 r1 vr => by
    split at p1
    · obtain ⟨w, w2, rfl, hw, hw2⟩ := vbs2 vr
      cases vb_int hw; cases vb_int hw2
      exact ⟨_, _, rfl, p1.1, k.ok _ _ m1 G1 H1 _ p1.2 s1 r1 walk_R⟩
    · exact p1.elim, k.ex⟩⟩
theorem si_enum (hg : Gl X "enumerate") (hm : X.mg "enumerate" = none) (ha : SA c X [e] l) (hs : starEach [e] X.env = [(false, eval e X.env)] := by rfl) : SI c X (.Tuple elts kk tpos) (.Call (.Name "enumerate" p) [e] [] pos) (iE l) :=
  pi_weak (pi_enum hg hm ha hs) fun σ H R ⟨G, z, m, P, F, mr, sr, h, k⟩ => ⟨G, z, m, _, F, mr, sr, h, ⟨fun ts m1 G1 v H1 p1 s1 r1 vr => by
    split at p1
    · split at p1
      · rename_i t xs et
        obtain ⟨w, r, rfl, v1, v2⟩ := vrs_cons.mp vr.1
        cases vrs_nil.mp v2
        obtain ⟨a', us, rfl, e4, e5⟩ := rdL r1 (.inl v1) (ts := xs) et
        exact ⟨a', us, rfl, e4, k.ok _ _ m1 G1 H1 _ p1 s1 r1 (walk_E (rdL_later r1 v1 et rfl e4 e5))⟩
      · exact p1.elim
    · exact p1.elim, k.ex⟩⟩
theorem si_enumS (hg : Gl X "enumerate") (hm : X.mg "enumerate" = none) (ha : SA c X [e] l) (hs : starEach [e] X.env = [(false, eval e X.env)] := by rfl) : SI c X (.Tuple elts kk tpos) (.Call (.Name "enumerate" p) [e] [] pos) (iES l) :=
  pi_weak (pi_enumS hg hm ha hs) fun σ H R ⟨G, z, m, P, F, mr, sr, h, k⟩ => ⟨G, z, m, _, F, mr, sr, h, ⟨fun ts m1 G1 v H1 p1 s1 r1 vr => by
    split at p1
    · obtain ⟨w, r, rfl, v1, v2⟩ := vrs_cons.mp vr.1
      cases vrs_nil.mp v2
      obtain ⟨rfl, ok⟩ := vr_str.mp v1
      exact ⟨_, rfl, k.ok _ _ m1 G1 H1 _ p1 s1 r1 (walk_ES ok)⟩
    · exact p1.elim, k.ex⟩⟩
theorem si_zip (hg : Gl X "zip") (hm : X.mg "zip" = none) (ha : SA c X [e, e2] l) (hs : starEach [e, e2] X.env = (false, eval e X.env) :: starEach [e2] X.env := by rfl) (hpl : (backTo pos (starEach [e2] X.env)).any (·.1) = false := by rfl) : SI c X (.Tuple elts kk tpos) (.Call (.Name "zip" p) [e, e2] [] pos) (iZ l) :=
  pi_weak (pi_zip hg hm ha hs hpl) fun σ H R ⟨G, z, m, P, F, mr, sr, h, k⟩ => ⟨G, z, m, _, F, mr, sr, h, ⟨fun ts m1 G1 v H1 p1 s1 r1 vr => by
    split at p1
    · split at p1
      · rename_i t u xs ys et eu
        obtain ⟨w, r, rfl, v1, v2⟩ := vrs_cons.mp vr.1
        obtain ⟨w2, r, rfl, v3, v4⟩ := vrs_cons.mp v2
        cases vrs_nil.mp v4
        obtain ⟨a', us, rfl, e4, e5⟩ := rdL r1 (.inl v1) (ts := xs) et
        obtain ⟨a2, us2, rfl, e6, e7⟩ := rdL r1 (.inl v3) (ts := ys) eu
        exact ⟨a', a2, us, us2, rfl, e4, e6, k.ok _ _ m1 G1 H1 _ p1 s1 r1 (walk_Z (rdL_later r1 v1 et rfl e4 e5) (rdL_later r1 v3 eu rfl e6 e7))⟩
      · exact p1.elim
    · exact p1.elim, k.ex⟩⟩
end
end AM
set_option maxHeartbeats 4000000
namespace AM
open PySem PySem.Spec PyProof.Rows L2 Eb
/-! ## isinstance -/
def bT : List String := ["int", "bool", "str", "list", "tuple", "dict", "NoneType"]
def tv (K : PySem.W.Frag) (s : String) : Value := if bT.contains s then .type s else .ref (ga K s)
def tvV (K : PySem.W.Frag) (s : String) : V := if bT.contains s then .ty s else .ref (ga K s)
theorem clsV_of (K : PySem.W.Frag) (s : String) : ClsV (tvV K s) (tv K s) := by
  unfold tvV tv
  split
  · exact .ty s
  · exact .own _
theorem clsVs_of (K : PySem.W.Frag) : ∀ ds : List String, Paired ClsV (ds.map (tvV K)) (ds.map (tv K))
  | [] => .nil
  | d :: r => .cons (clsV_of K d) (clsVs_of K r)
theorem tv_own {K : PySem.W.Frag} {s : String} (h : bT.contains s = false) : tv K s = .ref (ga K s) := by unfold tv; rw [h]; rfl
def tyT (m : Mem) : T → Option String
  | .non => some "NoneType"
  | .bl _ => some "bool"
  | .int _ => some "int"
  | .str _ => some "str"
  | .lst _ => some "list"
  | .tup _ => some "tuple"
  | .dct _ => some "dict"
  | .ins C _ => some C
  | .obj n => match m[n]? with
    | some (.lst _) => some "list"
    | some (.dct _) => some "dict"
    | some (.ins C _) => some C
    | _ => none
  | _ => none
/-- what isinstance answers, by the classes' ancestors -/
def subC (anc : String → List String) (s d : String) : Bool := s == d || (s == "bool" && d == "int") || (anc s).contains d
@[simp] def aIsi (anc : String → List String) (ds : List String) (a : AE) : AE := fun z m P F => a z m (fun t m1 => match tyT m1 t with | some s => P (.bl (ds.any (subC anc s))) m1 | none => False) F
/-- the head's look: what isinstance answers of d -/
def kisB (anc : String → List String) (cls : List String) (ds : List String) (K : PySem.W.Frag) : Bool := (bT ++ cls).all fun s => decide (PySem.W.kitAny K (tv K s) (ds.map (tv K)) = some (ds.any (subC anc s)))
section
variable {Γ : Gm} {G : Gh} {H : Hp} {m : Mem} {t : T} {v : V} {X : Cx} {c : Cl} {anc : String → List String}
theorem ty_X (hno : ∀ C ∈ Γ.cls, bT.contains C = false) {s : String} (r : MR Γ G m H) (h : VB Γ G H t v) (e : tyT m t = some s) : TyX Γ.K H v (tv Γ.K s) ∧ s ∈ bT ++ Γ.cls := by
  have hb : ∀ x, x ∈ bT → x ∈ bT ++ Γ.cls := fun x hx => List.mem_append_left _ hx
  have ins : ∀ C fs, asI m t = some (C, fs) → s = C → TyX Γ.K H v (tv Γ.K s) ∧ s ∈ bT ++ Γ.cls := fun C fs ea es => by
    subst es
    obtain ⟨a, dx, us, rfl, e1, ik, _⟩ := rdI r h ea
    refine ⟨?_, List.mem_append_right _ ik.mem⟩
    rw [tv_own (hno s ik.mem)]
    exact insB_ok ik.cl ik.ty e1
  cases t with
  | non => cases vb_non h; cases e; exact ⟨.base .non, hb _ (by decide)⟩
  | bl b => cases vb_bl h; cases e; exact ⟨.base (.bl b), hb _ (by decide)⟩
  | int b => cases vb_int h; cases e; exact ⟨.base (.int b), hb _ (by decide)⟩
  | str b => obtain ⟨rfl, _⟩ := vb_str h; cases e; exact ⟨.base (.str _), hb _ (by decide)⟩
  | lst xs => obtain ⟨a, us, rfl, e1, _⟩ := rdX r h (ts := xs) rfl; cases e; exact ⟨.base (.lst e1), hb _ (by decide)⟩
  | tup xs =>
    cases e
    refine ⟨?_, hb _ (by decide)⟩
    rcases h with h | ⟨a, _, _, h⟩
    · obtain ⟨a, us, rfl, z, _⟩ := vr_tup.mp h
      rcases z with ⟨_, z | ⟨o, z⟩⟩ | ⟨o, its, n, z1, z2, _⟩
      · exact .base (.tup z)
      · exact .fTuple z
      · exact .kTuple z1 z2
    · exact h.elim
  | dct xs =>
    cases e
    refine ⟨?_, hb _ (by decide)⟩
    obtain ⟨a, us, rfl, z, _⟩ := rdD r h (ts := xs) rfl
    rcases z with z | ⟨o, z⟩
    · exact .base (.dK z)
    · exact .fDict z
  | ins C fs => exact ins C fs rfl (Option.some.inj e).symm
  | obj n =>
    simp only [tyT] at e
    split at e
    · rename_i xs ex
      obtain ⟨a, us, rfl, e1, _⟩ := rdX r h (ts := xs) (by simp [asX, ex]); cases e; exact ⟨.base (.lst e1), hb _ (by decide)⟩
    · rename_i xs ex
      obtain ⟨a, rfl, _, us, e1, _⟩ := r.obj' h ex; cases e; exact ⟨.base (.dK e1), hb _ (by decide)⟩
    · rename_i C fs ex
      exact ins C fs (by simp [asI, ex]) (Option.some.inj e).symm
    · cases e
  | _ => cases e
theorem se_isi {d : String} {e1 e2 e : Expr} {a : AE} (mk : ∀ {t1 t2 : TE}, PE X e1 t1 → PE X e2 t2 → PE X e (tCB (rIsi X.K) (tCons t1 (tCons t2 tNil)))) (hno : ∀ C ∈ c.cls, bT.contains C = false) (hk : kisB anc c.cls [d] X.K = true) (h1 : SB c X e1 a) (h2 : PE X e2 (tC (tvV X.K d))) : SE c X e (aIsi anc [d] a) :=
  pe_weak (mk h1 h2) fun σ H Q ⟨G, z, m, P, F, mr, sr, h, k⟩ => ⟨G, z, m, _, F, mr, sr, h, k.mv Stp.refl fun x1 m1 G1 v1 H1 p1 s1 r1 b1 => by
    split at p1
    · rename_i s es
      obtain ⟨ty, mem⟩ := ty_X (Γ := go X c.cls) hno r1 b1 es
      have hk1 := of_decide_eq_true (List.all_eq_true.mp hk s mem)
      have hk2 : PySem.W.kitOne X.K (tv X.K s) (tv X.K d) = some ([d].any (subC anc s)) := by
        have : PySem.W.kitAny X.K (tv X.K s) [tv X.K d] = some ([d].any (subC anc s)) := hk1
        unfold PySem.W.kitAny at this
        split at this
        · rename_i e; rw [e, this]
        · rename_i e; rw [e]; unfold PySem.W.kitAny at this; rw [this]
        · cases this
      exact ⟨v1, _, _, _, _, rfl, clsV_of X.K d, ty, hk2, k.ok _ m1 G1 _ H1 p1 s1 r1 (vr_bl.mpr rfl)⟩
    · exact p1.elim⟩
theorem se_isiT {ds : List String} {e1 e : Expr} {a : AE} {tcs : TA} (mk : ∀ {t1 : TE}, PE X e1 t1 → PE X e (tCB (rIsiT X.K) (tCons t1 (tCons (tTup tcs) tNil)))) (htc : ∀ σ H Q, Q (ds.map (tvV X.K)) H → tcs σ H Q) (hz : ds.length ≤ sizeLine) (hno : ∀ C ∈ c.cls, bT.contains C = false) (hk : kisB anc c.cls ds X.K = true) (h1 : SE c X e1 a) : SE c X e (aIsi anc ds a) :=
  pe_weak (mk h1) fun σ H Q ⟨G, z, m, P, F, mr, sr, h, k⟩ => ⟨G, z, m, _, F, mr, sr, h, k.mv Stp.refl fun x1 m1 G1 v1 H1 p1 s1 r1 b1 => by
    split at p1
    · rename_i s es
      refine htc σ H1 _ ⟨by rw [List.length_map]; exact hz, fun p np => ?_⟩
      have b2 := (Stp.new (o := .tup (ds.map (tvV X.K))) np).vr b1
      have r2 := r1.new (o := .tup (ds.map (tvV X.K))) np
      obtain ⟨ty, mem⟩ := ty_X (Γ := go X c.cls) hno r2 (.inl b2) es
      have hk1 := of_decide_eq_true (List.all_eq_true.mp hk s mem)
      exact ⟨v1, p, _, _, _, _, rfl, upd_same, clsVs_of X.K ds, ty, hk1, k.ok _ m1 G1 _ _ p1 (s1.trans (Stp.new np)) r2 (vr_bl.mpr rfl)⟩
    · exact p1.elim⟩
end
/-! ## lists that change: cells -/
abbrev AM1' := List T → List T → (T → List T → Prop) → Prop
@[simp] def opApp : AM1' := fun xs ys k => match ys with | [y] => xs.length < sizeLine ∧ k .non (xs ++ [y]) | _ => False
@[simp] def opExt (m : Mem) : AM1' := fun xs ys k => match ys with | [y] => (match asX m y with | some zs => xs.length + zs.length ≤ sizeLine ∧ k .non (xs ++ zs) | none => False) | _ => False
@[simp] def opPop : AM1' := fun xs ys k => match ys with | [] => (match xs.getLast? with | some y => k y xs.dropLast | none => False) | _ => False
@[simp] def opRev : AM1' := fun xs ys k => match ys with | [] => k .non xs.reverse | _ => False
@[simp] def opClr : AM1' := fun xs ys k => match ys with | [] => k .non [] | _ => False
@[simp] def opIns : AM1' := fun xs ys k => match ys with | [.int i, y] => xs.length < sizeLine ∧ 0 ≤ i ∧ i < 2 ^ 63 ∧ k .non (xs.take i.toNat ++ y :: xs.drop i.toNat) | _ => False
@[simp] def opPopAt : AM1' := fun xs ys k => match ys with | [.int i] => 0 ≤ i ∧ i < 2 ^ 63 ∧ (match xs[i.toNat]? with | some y => k y (xs.eraseIdx i.toNat) | none => False) | _ => False
/-- by values: the list at a -/
def SimC2 (Γ : Gm) (r : V → List V → Hp → VK → Prop) (f : Mem → AM1') : Prop := ∀ G m H a xs us ys vs (kk : T → List T → Prop) (Q : VK), MR Γ G m H → H a = some (.lst us) → VRs Γ G H xs us → VRs Γ G H ys vs → f m xs ys kk →
  (∀ t xs' w us', kk t xs' → VR Γ G H t w → VRs Γ G H xs' us' → Q w (upd H a (.lst us'))) → r (.ref a) vs H Q
@[simp] def aCM (f : Mem → AM1') (a : AE) (l : AA) : AE := fun z m P F => a z m (fun x m1 => (asL m1 x).isSome = true ∧ l z m1 (fun ys m2 => match x with
  | .obj n => (match m2[n]? with | some (.lst xs) => f m2 xs ys fun t xs' => P t (m2.set n (.lst xs')) | _ => False)
  | _ => False) F) F
/-- .. in an owned slot -/
@[simp] def sOM (i : Nat) (f : Mem → AM1') (l : AA) : AS := fun D z m => match z[i]? with
  | some (some (.o (.lst xs))) => l z m (fun ys m1 => f m1 xs ys fun _ xs' => D.nx (z.set i (some (.o (.lst xs')))) m1) (D.ex z)
  | _ => False
section
variable {c : Cl} {X : Cx} {e o : Expr} {es : List Expr} {a : AE} {l : AA} {Γ : Gm} {st : Stmt} {i : Nat}
theorem sim_app : SimC2 Γ rAppend (fun _ => opApp) := by
  intro G m H a xs us ys vs kk Q r ha vx vy h k
  simp only [opApp] at h
  split at h
  · obtain ⟨v, r', rfl, h1, h2⟩ := vrs_cons.mp vy
    cases vrs_nil.mp h2
    exact ⟨a, us, v, rfl, rfl, ha, by rw [vx.length]; exact h.1, k _ _ _ _ h.2 (vr_non.mpr rfl) (vx.app (VRs.one h1))⟩
  · exact h.elim
theorem sim_ext : SimC2 Γ rExtend opExt := by
  intro G m H a xs us ys vs kk Q r ha vx vy h k
  simp only [opExt] at h
  split at h
  · split at h
    · rename_i y zs ez
      obtain ⟨v, r', rfl, h1, h2⟩ := vrs_cons.mp vy
      cases vrs_nil.mp h2
      obtain ⟨b, ws, rfl, e1, e2⟩ := rdX r (.inl h1) ez
      exact ⟨a, b, us, ws, rfl, rfl, ha, e1, by rw [vx.length, e2.length]; exact h.1, k _ _ _ _ h.2 (vr_non.mpr rfl) (vx.app e2)⟩
    · exact h.elim
  · exact h.elim
theorem sim_rev : SimC2 Γ rReverse (fun _ => opRev) := by
  intro G m H a xs us ys vs kk Q r ha vx vy h k
  simp only [opRev] at h
  split at h
  · cases vrs_nil.mp vy
    refine ⟨a, us, rfl, rfl, ha, k _ _ _ _ h (vr_non.mpr rfl) ?_⟩
    clear h k ha
    induction xs generalizing us with
    | nil => cases vrs_nil.mp vx; exact vrs_nil.mpr rfl
    | cons x xs ih =>
      obtain ⟨v, r', rfl, h1, h2⟩ := vrs_cons.mp vx
      rw [List.reverse_cons, List.reverse_cons]
      exact (ih _ h2).app (VRs.one h1)
  · exact h.elim
theorem sim_clr : SimC2 Γ rClear (fun _ => opClr) := by
  intro G m H a xs us ys vs kk Q r ha vx vy h k
  simp only [opClr] at h
  split at h
  · cases vrs_nil.mp vy
    exact ⟨a, us, rfl, rfl, ha, k _ _ _ _ h (vr_non.mpr rfl) (vrs_nil.mpr rfl)⟩
  · exact h.elim
theorem se_cm {r : V → List V → Hp → VK → Prop} {f : Mem → AM1'} (mk : ∀ {to : TE} {t : TA}, PE X o to → PA X es t → PE X e (tBM X.K "list" r to t)) (S : SimC2 (go X c.cls) r f) (ho : SE c X o a) (ha : SA c X es l) : SE c X e (aCM f a l) :=
  pe_weak (mk ho ha) fun σ H Q ⟨G, z, m, P, F, mr, sr, h, k⟩ => ⟨G, z, m, _, F, mr, sr, h, k.mv Stp.refl fun x1 m1 G1 v1 H1 p1 s1 r1 b1 =>
    ⟨ty_of r1 (.inl b1) (Ty := "list") p1.1, G1, z, m1, _, F, r1, sr.step mr.nd s1, p1.2, k.mv s1 fun ys m2 G2 vs H2 p2 s2 r2 b2 => by
      split at p2
      · split at p2
        · rename_i n xs ex
          obtain ⟨q, rfl, hq, us, e1, e2⟩ := r2.obj (s2.vr b1) ex
          refine S G2 m2 H2 q xs us ys vs _ Q r2 e1 e2 b2.1 p2 fun t xs' w us' p3 vt vx => ?_
          have gg := put_go (G := G2) (H := H2) (o := .lst us') (List.mem_of_getElem? hq)
          obtain ⟨r3, s3⟩ := r2.put (o := .lst us') (cl := .lst xs') ex hq fun _ => ⟨us', upd_same, vx.go gg⟩
          exact k.ok t _ G2 w _ p3 ((s1.trans s2).trans s3) r3 (s3.vr vt)
        · exact p2.elim
      · exact p2.elim⟩⟩
theorem se_cm0 {r : V → List V → Hp → VK → Prop} {f : Mem → AM1'} (mk : ∀ {to : TE}, PE X o to → PE X e (tBM0 X.K "list" r to)) (S : SimC2 (go X c.cls) r f) (ho : SE c X o a) : SE c X e (aCM f a aNil) :=
  pe_weak (mk ho) fun σ H Q ⟨G, z, m, P, F, mr, sr, h, k⟩ => ⟨G, z, m, _, F, mr, sr, h, k.mv Stp.refl fun x1 m1 G1 v1 H1 p1 s1 r1 b1 =>
    ⟨ty_of r1 (.inl b1) (Ty := "list") p1.1, by
      have p2 := p1.2
      simp only [aNil] at p2
      split at p2
      · split at p2
        · rename_i n xs ex
          obtain ⟨q, rfl, hq, us, e1, e2⟩ := r1.obj b1 ex
          refine S G1 m1 H1 q xs us [] [] _ Q r1 e1 e2 (vrs_nil.mpr rfl) p2 fun t xs' w us' p3 vt vx => ?_
          have gg := put_go (G := G1) (H := H1) (o := .lst us') (List.mem_of_getElem? hq)
          obtain ⟨r3, s3⟩ := r1.put (o := .lst us') (cl := .lst xs') ex hq fun _ => ⟨us', upd_same, vx.go gg⟩
          exact k.ok t _ G1 w _ p3 (s1.trans s3) r3 (s3.vr vt)
        · exact p2.elim
      · exact p2.elim⟩⟩
/-- the owned list at slot i becomes another -/
theorem own_put {Γ : Gm} {G : Gh} {H : Hp} {m : Mem} {z : SS} {σ : L2.St} {i : Nat} {p : Addr} {t : T} {o : HO} (r : MR Γ G m H) (sr : SR Γ G H z σ) (hp : (i, p) ∈ G.ow) (hσ : σ[i]? = some (some (.ref p))) (hz : ∃ t0, z[i]? = some (some (.o t0))) (hr : RootR Γ G (upd H p o) p t) :
    SStp G H G (upd H p o) ∧ MR Γ G m (upd H p o) ∧ SR Γ G (upd H p o) (z.set i (some (.o t))) σ := by
  have pm := own_mem hp
  have ph : G.hot p := hot_iff.mpr (.inr (.inl pm))
  have g : Go G H G (upd H p o) := ⟨List.prefix_refl _, fun b u n h => ⟨by rw [upd_ne (show b ≠ p from fun y => n (by rw [y]; exact ph))]; exact h, n⟩⟩
  have ss : SStp G H G (upd H p o) := ⟨rfl, List.prefix_refl _, fun a u _ n2 h => by rw [upd_ne (show a ≠ p from fun y => n2 (by rw [y]; exact pm))]; exact h, fun a z => .inl z⟩
  have uniq : ∀ j, (j, p) ∈ G.ow → j = i := fun j hj => by
    have n := r.nd
    unfold Gh.all at n
    rw [List.nodup_append] at n
    have n1 := n.1
    rw [List.nodup_append] at n1
    have n2 := n1.2.1
    have key : ∀ l : List (Nat × Addr), (l.map (·.2)).Nodup → ∀ x ∈ l, ∀ y ∈ l, x.2 = y.2 → x = y := by
      intro l
      induction l with
      | nil => intro _ x hx; cases hx
      | cons w r ih =>
        intro hn x hx y hy e
        rw [List.map_cons, List.nodup_cons] at hn
        rcases List.mem_cons.mp hx with hx | hx
        · rcases List.mem_cons.mp hy with hy | hy
          · rw [hx, hy]
          · exact (hn.1 (List.mem_map.mpr ⟨y, hy, by rw [← e, hx]⟩)).elim
        · rcases List.mem_cons.mp hy with hy | hy
          · exact (hn.1 (List.mem_map.mpr ⟨x, hx, by rw [e, hy]⟩)).elim
          · exact ih hn.2 x hx y hy e
    exact congrArg Prod.fst (key G.ow n2 _ hj _ hp rfl)
  refine ⟨ss, ⟨r.len, fun n cl a e1 e2 => (r.cell n cl a e1 e2).go g (upd_ne fun y => ((nd3 r.nd).1 (List.mem_of_getElem? e2)).1 (by rw [y]; exact pm)), r.nd, fun a y => ?_⟩, ⟨by simp [sr.len], fun j u e => ?_, fun j u e => ?_⟩⟩
  · by_cases h : a = p
    · rw [h, upd_same]; simp
    · rw [upd_ne h]; exact r.live a y
  · by_cases hc : i = j
    · subst hc
      obtain ⟨t0, hz⟩ := hz
      rw [List.getElem?_set_self (List.getElem?_eq_some_iff.mp hz).1] at e
      cases e
    · rw [List.getElem?_set_ne hc] at e
      obtain ⟨v, q1, q2⟩ := sr.val j u e
      exact ⟨v, q1, q2.go g⟩
  · by_cases hc : i = j
    · subst hc
      obtain ⟨t0, hz⟩ := hz
      rw [List.getElem?_set_self (List.getElem?_eq_some_iff.mp hz).1] at e
      cases e
      exact ⟨p, hp, hσ, hr⟩
    · rw [List.getElem?_set_ne hc] at e
      obtain ⟨b, q1, q2, q3⟩ := sr.own j u e
      exact ⟨b, q1, q2, q3.go g fun o' h => by rw [upd_ne (fun y => hc (uniq j (by rw [← y]; exact q1)).symm)]; exact h⟩
theorem s_om {r : V → List V → Hp → VK → Prop} {f : Mem → AM1'} (mk : ∀ {t : TA}, PA X es t → PS X st (tDrop (tBM X.K "list" r (tVar i) t))) (S : SimC2 (go X c.cls) r f) (ha : SA c X es l) : S1 c X st (sOM i f l) := ps_weak (mk ha) fun E σ H ⟨G, z, m, D, mr, sr, h, k⟩ => by
  simp only [sOM] at h
  split at h
  · rename_i xs ez
    obtain ⟨p, hp, hσ, us, e1, e2⟩ := sr.own i _ ez
    refine ⟨.ref p, hσ, .inl ⟨rfl, us, SqL.of e1⟩, G, z, m, _, _, mr, sr, h, k.ex' mr.nd sr fun ys m1 G1 vs H1 p1 s1 r1 v1 => ?_⟩
    have sr1 := sr.step mr.nd s1
    obtain ⟨p', hp', hσ', us', e1', e2'⟩ := sr1.own i _ ez
    rw [hσ] at hσ'
    cases hσ'
    refine S G1 m1 H1 p xs us' ys vs _ _ r1 e1' e2' v1.1 p1 fun t xs' w us2 p3 vt vx => ?_
    have ph : G1.hot p := hot_iff.mpr (.inr (.inl (own_mem hp')))
    have g : Go G1 H1 G1 (upd H1 p (.lst us2)) := ⟨List.prefix_refl _, fun b u n h => ⟨by rw [upd_ne (show b ≠ p from fun y => n (by rw [y]; exact ph))]; exact h, n⟩⟩
    obtain ⟨ss, r2, sr2⟩ := own_put (o := .lst us2) (t := .lst xs') r1 sr1 hp' hσ ⟨_, ez⟩ ⟨us2, upd_same, vx.go g⟩
    exact k.nx _ m1 G1 σ _ p3 (s1.ss.trans ss mr.nd r1.nd) r2 sr2
  · exact h.elim
theorem s_om0 {r : V → List V → Hp → VK → Prop} {f : Mem → AM1'} (mk : PS X st (tDrop (tBM0 X.K "list" r (tVar i)))) (S : SimC2 (go X c.cls) r f) : S1 c X st (sOM i f aNil) := ps_weak mk fun E σ H ⟨G, z, m, D, mr, sr, h, k⟩ => by
  simp only [sOM] at h
  split at h
  · rename_i xs ez
    obtain ⟨p, hp, hσ, us, e1, e2⟩ := sr.own i _ ez
    refine ⟨.ref p, hσ, .inl ⟨rfl, us, SqL.of e1⟩, ?_⟩
    refine S G m H p xs us [] [] _ _ mr e1 e2 (vrs_nil.mpr rfl) h fun t xs' w us2 p3 vt vx => ?_
    have ph : G.hot p := hot_iff.mpr (.inr (.inl (own_mem hp)))
    have g : Go G H G (upd H p (.lst us2)) := ⟨List.prefix_refl _, fun b u n h => ⟨by rw [upd_ne (show b ≠ p from fun y => n (by rw [y]; exact ph))]; exact h, n⟩⟩
    obtain ⟨ss, r2, sr2⟩ := own_put (o := .lst us2) (t := .lst xs') mr sr hp hσ ⟨_, ez⟩ ⟨us2, upd_same, vx.go g⟩
    exact k.nx _ m G σ _ p3 ss r2 sr2
  · exact h.elim
end
/-! ## o[i] = v -/
abbrev ASet := T → T → T → Mem → (Mem → Prop) → Prop
def SimSet (Γ : Gm) (r : TSet) (f : ASet) : Prop := ∀ G m H o i x vo vi vx (P : Mem → Prop) (Q : Hp → Prop), MR Γ G m H → VR Γ G H o vo → VB Γ G H i vi → VR Γ G H x vx → f o i x m P → (∀ m' G' H', P m' → Stp G H G' H' → MR Γ G' m' H' → Q H') → r vo vi vx H Q
def ixT (n : Nat) (i : Int) : Option Nat := if 0 ≤ i then (if i < n then some i.toNat else none) else if -(n : Int) ≤ i then some (i + n).toNat else none
@[simp] def setL : ASet := fun o i x m P => match o, i with
  | .obj n, .int k => (match m[n]? with | some (.lst xs) => (match ixT xs.length k with | some j => P (m.set n (.lst (xs.set j x))) | none => False) | _ => False)
  | _, _ => False
@[simp] def setD : ASet := fun o i x m P => match o, keyT i with
  | .obj n, some k => (match m[n]? with | some (.dct kvs) => kvs.length < sizeLine ∧ P (m.set n (.dct (putKT kvs k x))) | _ => False)
  | _, _ => False
@[simp] def gS (f : ASet) (o i : AE) : AGt := fun t z m P F => o z m (fun x m1 => i z m1 (fun k m2 => f x k t m2 fun m3 => P z m3) (F z)) (F z)
section
variable {c : Cl} {X : Cx} {e o ix : Expr} {a b d : AE} {Γ : Gm} {st : Stmt} {i : Nat} {pos : Pos}
theorem ixT_eq {n : Nat} {i : Int} {j : Nat} (h : ixT n i = some j) : ixN n i = some j := by
  unfold ixT at h; unfold ixN; exact h
theorem sim_setL : SimSet Γ rSetL setL := by
  intro G m H o i x vo vi vx P Q r ho hi hx h k
  unfold setL at h
  split at h
  · cases vb_int hi
    split at h
    · split at h
      · rename_i n kk _ xs ex _ j ej
        obtain ⟨q, rfl, hq, us, e1, e2⟩ := r.obj ho ex
        have gg := put_go (G := G) (H := H) (o := .lst (us.set j vx)) (List.mem_of_getElem? hq)
        obtain ⟨r3, s3⟩ := r.put (o := .lst (us.set j vx)) (cl := .lst (xs.set j x)) ex hq fun _ => ⟨_, upd_same, (e2.set j hx).go gg⟩
        exact ⟨q, us, _, j, rfl, rfl, e1, by rw [e2.length]; exact ixT_eq ej, k _ G _ h s3 r3⟩
      · exact h.elim
    · exact h.elim
  · exact h.elim
theorem sg_sub {r : TSet} {f : ASet} (mk : ∀ {to ti : TE}, PE X o to → PE X ix ti → PG X e (gSub to ti r)) (S : SimSet (go X c.cls) r f) (ho : SE c X o a) (hi : SB c X ix b) : SG c X e (gS f a b) := pg_weak (mk ho hi) fun v σ H Q ⟨G, z, m, t, P, F, mr, sr, vt, h, k⟩ =>
  ⟨G, z, m, _, _, mr, sr, h, ⟨fun x1 m1 G1 v1 H1 p1 s1 r1 b1 => ⟨G1, z, m1, _, _, r1, sr.step mr.nd s1, p1, ⟨fun x2 m2 G2 v2 H2 p2 s2 r2 b2 =>
      S G2 m2 H2 x1 x2 t v1 v2 v _ _ r2 (s2.vr b1) b2 (s2.vr (s1.vr vt)) p2 fun m3 G3 H3 p3 s3 r3 => k.ok z m3 G3 σ H3 p3 ((s1.trans s2).trans s3).ss r3 (sr.step mr.nd ((s1.trans s2).trans s3)),
      fun x m' G' H' cc d h1 h2 h3 h4 => k.ex z x m' G' σ H' cc d h1 (s1.trans h2).ss h3 (sr.step mr.nd (s1.trans h2)) h4⟩⟩,
    fun x m' G' H' cc d h1 h2 h3 h4 => k.ex z x m' G' σ H' cc d h1 h2.ss h3 (sr.step mr.nd h2) h4⟩⟩
/-- d[k] = e, a dict in a cell -/
@[simp] def sPutD (ao ak ae : AE) : AS := fun D z m => ae z m (fun t m1 => ao z m1 (fun x m2 => ak z m2 (fun k m3 => setD x k t m3 fun m4 => D.nx z m4) (D.ex z)) (D.ex z)) (D.ex z)
theorem sim_setD : ∀ G m H o i x vo vi vx (P : Mem → Prop) (Q : Hp → Prop), MR Γ G m H → VR Γ G H o vo → VB Γ G H i vi → VR Γ G H x vx → setD o i x m P → (∀ m' G' H', P m' → Stp G H G' H' → MR Γ G' m' H' → Q H') → ∃ q H4, vo = .ref q ∧ DPut H q vi vx H4 ∧ Q H4 := by
  intro G m H o i x vo vi vx P Q r ho hi hx h k
  unfold setD at h
  split at h
  · split at h
    · rename_i n kk ek _ kvs ex
      obtain ⟨q, rfl, hq, us, e1, e2⟩ := r.obj ho ex
      cases key_of' hi ek
      have gg := put_go (G := G) (H := H) (o := .dK (putK us (tk kk) vx)) (List.mem_of_getElem? hq)
      obtain ⟨r3, s3⟩ := r.put (o := .dK (putK us (tk kk) vx)) (cl := .dct (putKT kvs kk x)) ex hq fun _ => ⟨_, upd_same, (e2.put hx).go gg⟩
      exact ⟨q, _, rfl, DPut.k e1 (by rw [e2.length]; exact h.1), k _ G _ h.2 s3 r3⟩
    · exact h.elim
  · exact h.elim
theorem s_putD (mk : ∀ {td ty tv : TE}, PE X o td → PE X ix ty → PE X e tv → PS X st (sDPut td ty tv)) (ho : SE c X o a) (hi : SB c X ix b) (he : SE c X e d) : S1 c X st (sPutD a b d) := ps_weak (mk ho hi he) fun E σ H ⟨G, z, m, D, mr, sr, h, k⟩ =>
  ⟨G, z, m, _, _, mr, sr, h, k.ex' mr.nd sr fun t m1 G1 v1 H1 p1 s1 r1 vt => by
    have k1 := k.step s1.ss mr.nd r1.nd
    have sr1 := sr.step mr.nd s1
    refine ⟨G1, z, m1, _, _, r1, sr1, p1, k1.ex' r1.nd sr1 fun x m2 G2 v2 H2 p2 s2 r2 vx => ?_⟩
    have k2 := k1.step s2.ss r1.nd r2.nd
    have sr2 := sr1.step r1.nd s2
    refine ⟨G2, z, m2, _, _, r2, sr2, p2, k2.ex' r2.nd sr2 fun kk m3 G3 v3 H3 p3 s3 r3 vk => ?_⟩
    exact sim_setD G3 m3 H3 x kk t v2 v3 v1 _ _ r3 (s3.vr vx) vk (s3.vr (s2.vr vt)) p3 fun m4 G4 H4 p4 s4 r4 => k2.nx z m4 G4 σ H4 p4 (s3.trans s4).ss r4 (sr2.step r2.nd (s3.trans s4))⟩
/-- .. of an owned slot -/
@[simp] def sOSetD (i : Nat) (ak ae : AE) : AS := fun D z m => match z[i]? with
  | some (some (.o (.dct kvs))) => ae z m (fun t m1 => ak z m1 (fun k m2 => match keyT k with | some k' => kvs.length < sizeLine ∧ D.nx (z.set i (some (.o (.dct (putKT kvs k' t))))) m2 | none => False) (D.ex z)) (D.ex z)
  | _ => False
@[simp] def sOSetL (i : Nat) (ak ae : AE) : AS := fun D z m => match z[i]? with
  | some (some (.o (.lst xs))) => ae z m (fun t m1 => ak z m1 (fun k m2 => match k with | .int kk => (match ixT xs.length kk with | some j => D.nx (z.set i (some (.o (.lst (xs.set j t))))) m2 | none => False) | _ => False) (D.ex z)) (D.ex z)
  | _ => False
theorem s_oSetD (mk : ∀ {ty tv : TE}, PE X ix ty → PE X e tv → PS X st (sDPut (tVar i) ty tv)) (hi : SB c X ix b) (he : SE c X e d) : S1 c X st (sOSetD i b d) := ps_weak (mk hi he) fun E σ H ⟨G, z, m, D, mr, sr, h, k⟩ => by
  simp only [sOSetD] at h
  split at h
  · rename_i kvs ez
    refine ⟨G, z, m, _, _, mr, sr, h, k.ex' mr.nd sr fun t m1 G1 v1 H1 p1 s1 r1 vt => ?_⟩
    have k1 := k.step s1.ss mr.nd r1.nd
    have sr1 := sr.step mr.nd s1
    obtain ⟨p, hp, hσ, us, e1, e2⟩ := sr1.own i _ ez
    refine ⟨_, hσ, G1, z, m1, _, _, r1, sr1, p1, k1.ex' r1.nd sr1 fun kk m3 G3 v3 H3 p3 s3 r3 vk => ?_⟩
    split at p3
    · rename_i k' ek
      cases key_of' vk ek
      have sr3 := sr1.step r1.nd s3
      obtain ⟨p', hp', hσ', us', e1', e2'⟩ := sr3.own i _ ez
      rw [hσ] at hσ'
      cases hσ'
      have ph : G3.hot p := hot_iff.mpr (.inr (.inl (own_mem hp')))
      have g : Go G3 H3 G3 (upd H3 p (.dK (putK us' (tk k') v1))) := ⟨List.prefix_refl _, fun b u n h => ⟨by rw [upd_ne (show b ≠ p from fun y => n (by rw [y]; exact ph))]; exact h, n⟩⟩
      obtain ⟨ss, r4, sr4⟩ := own_put (o := .dK (putK us' (tk k') v1)) (t := .dct (putKT kvs k' t)) r3 sr3 hp' hσ ⟨_, ez⟩ ⟨_, upd_same, (e2'.put (s3.vr vt)).go g⟩
      exact ⟨p, _, rfl, DPut.k e1' (by rw [e2'.length]; exact p3.1), k1.nx _ m3 G3 σ _ p3.2 (s3.ss.trans ss r1.nd r3.nd) r4 sr4⟩
    · exact p3.elim
  · exact h.elim
theorem s_oSetL (mk : ∀ {ty tv : TE}, PE X ix ty → PE X e tv → PS X st (tAsg tv (gSub (tVar i) ty rSetL))) (hi : SB c X ix b) (he : SE c X e d) : S1 c X st (sOSetL i b d) := ps_weak (mk hi he) fun E σ H ⟨G, z, m, D, mr, sr, h, k⟩ => by
  simp only [sOSetL] at h
  split at h
  · rename_i xs ez
    refine ⟨G, z, m, _, _, mr, sr, h, k.ex' mr.nd sr fun t m1 G1 v1 H1 p1 s1 r1 vt => ?_⟩
    have k1 := k.step s1.ss mr.nd r1.nd
    have sr1 := sr.step mr.nd s1
    obtain ⟨p, hp, hσ, us, e1, e2⟩ := sr1.own i _ ez
    refine ⟨_, hσ, G1, z, m1, _, _, r1, sr1, p1, k1.ex' r1.nd sr1 fun kk m3 G3 v3 H3 p3 s3 r3 vk => ?_⟩
    split at p3
    · cases vb_int vk
      split at p3
      · rename_i kk _ j ej
        have sr3 := sr1.step r1.nd s3
        obtain ⟨p', hp', hσ', us', e1', e2'⟩ := sr3.own i _ ez
        rw [hσ] at hσ'
        cases hσ'
        have ph : G3.hot p := hot_iff.mpr (.inr (.inl (own_mem hp')))
        have g : Go G3 H3 G3 (upd H3 p (.lst (us'.set j v1))) := ⟨List.prefix_refl _, fun b u n h => ⟨by rw [upd_ne (show b ≠ p from fun y => n (by rw [y]; exact ph))]; exact h, n⟩⟩
        obtain ⟨ss, r4, sr4⟩ := own_put (o := .lst (us'.set j v1)) (t := .lst (xs.set j t)) r3 sr3 hp' hσ ⟨_, ez⟩ ⟨_, upd_same, (e2'.set j (s3.vr vt)).go g⟩
        exact ⟨p, us', _, j, rfl, rfl, e1', by rw [e2'.length]; exact ixT_eq ej, k1.nx _ m3 G3 σ _ p3 (s3.ss.trans ss r1.nd r3.nd) r4 sr4⟩
      · exact p3.elim
    · exact p3.elim
  · exact h.elim
end
end AM
set_option maxHeartbeats 4000000
namespace AM
open PySem PySem.Spec PyProof.Rows L2 Eb
/-! ## defs of the text by their bodies -/
section
variable {gd : Bool} {P : Program} {w : World} {K : PySem.W.Frag} {mg : Str → Option Value} {base : Heap} {cls : List String} {k : Nat} {f : Addr} {ps N : List Str} {x qual : Str} {params : Arguments} {body : List Stmt} {scope : Scope} {a : AS} {n : Nat}
theorem calA (h : ∃ fd, FunD K x x params body scope [] [] f fd) (g : mg x = some (.ref f)) (S : FnScope N ps scope) (bd : Bd x x params body scope ps) (hn : ps.length = n) (hb : By0 gd P w K mg base cls k f N x body scope a) : CalA gd false P w K mg base cls (k + 1) x [] n (fB N.length a) := by
  obtain ⟨fd, F⟩ := h
  exact ⟨f, fd, ps, [], [], fa0 F S hb, by rw [hn]; rfl, g, F.kp, F.bindsN bd, .nil, fun _ _ => vrs_nil.mpr rfl⟩
theorem metA {C : String} (h : ∃ fd, FunD K x qual params body scope [] [] f fd) (m : Meth K (ga K C) x f) (S : FnScope N ps scope) (bd : Bd x qual params body scope ps) (hn : ps.length = 1 + n) (hb : By0 gd P w K mg base cls k f N qual body scope a) : MetA gd false P w K mg base cls (k + 1) C x [] n (fB N.length a) := by
  obtain ⟨fd, F⟩ := h
  exact ⟨f, fd, ps, [], [], m, fa0 F S hb, by rw [hn]; rfl, F.bindsN bd, .nil, fun _ _ => vrs_nil.mpr rfl⟩
theorem makA {C : String} (h : ∃ fd, FunD K x qual params body scope [] [] f fd) (M : Mk K (ga K C) f) (g : mg (PySem.Str.ofString C) = some (.ref (ga K C))) (ik : InsK ⟨K, cls⟩ C []) (S : FnScope N ps scope) (bd : Bd x qual params body scope ps) (hn : ps.length = 1 + n) (hb : By0 gd P w K mg base cls k f N qual body scope a) : MakA gd false P w K mg base cls (k + 1) C [] n (fB N.length a) := by
  obtain ⟨fd, F⟩ := h
  exact ⟨f, fd, ps, [], [], M, fa0 F S hb, by rw [hn]; rfl, g, F.bindsN bd, .nil, fun _ _ => vrs_nil.mpr rfl, ik⟩
/-- an __init__ with defaults, q written arguments (self among them), the defaults from the j-th on -/
theorem makA1 {C : String} {dvs : List V} {dts : List T} (h : ∃ fd, FunD K x qual params body scope dvs [] f fd) (M : Mk K (ga K C) f) (g : mg (PySem.Str.ofString C) = some (.ref (ga K C))) (ik : InsK ⟨K, cls⟩ C []) (S : FnScope N ps scope) (q j : Nat) (hd : dvs ≠ []) (hq : q + (dvs.length - j) = ps.length)
    (bd : ∀ (T : Addr) (kV doc pm : Value) (an : Option Addr) (cdv ct : Value) (us its : List Value), us.length = q → its.length = dvs.length →
      ∃ k, bindArgs (PySem.W.fnOf x qual params body scope (.ref T) kV doc pm an cdv ct) ⟨us, []⟩ = seqItems? (.ref T) >>= k ∧ k (some its.toArray) = pure (ps.zip (us ++ its.drop j)))
    (hn : ps.length = 1 + n + dts.length) (vd : ∀ G H, VRs ⟨K, cls⟩ G H dts (dvs.drop j)) (hb : By0 gd P w K mg base cls k f N qual body scope a) : MakA gd false P w K mg base cls (k + 1) C dts n (fB N.length a) := by
  obtain ⟨fd, F⟩ := h
  obtain ⟨ds, h1, h2⟩ := F.binds1 q j hd hq bd
  exact ⟨f, fd, ps, ds, dvs.drop j, M, fa0 F S hb, hn, g, h2, h1, vd, ik⟩
end
/-! ## constants of the module -/
section
variable {c : Cl} {X : Cx} {e : Expr}
theorem wrT_of {K : PySem.W.Frag} {a : Addr} {xs : List V} (h : ∀ H : Hp, SqT K H a xs) : WrT K a xs := by
  rcases h (fun _ => none) with (z | ⟨_, z⟩) | z
  · cases z
  · cases z
  · exact z
theorem se_ktup {a : Addr} {xs : List V} {ts : List T} (h : PE X e (tC (.ref a))) (hk : ∀ H : Hp, SqT X.K H a xs) (hv : ∀ G H, VRs (go X c.cls) G H ts xs) : SE c X e (aC (.tup ts)) :=
  se_c h fun G H => vr_tup.mpr ⟨a, xs, rfl, .inr (wrT_of hk), hv G H⟩
def kOk : List T → List V → Bool
  | [], [] => true
  | .int i :: ts, .int j :: vs => decide (i = j) && kOk ts vs
  | .str l :: ts, .str z :: vs => decide (tx l = z) && sokB l && kOk ts vs
  | _, _ => false
theorem kOk_vrs {Γ : Gm} {G : Gh} {H : Hp} : ∀ {ts : List T} {vs : List V}, kOk ts vs = true → VRs Γ G H ts vs
  | [], [], _ => vrs_nil.mpr rfl
  | .int i :: ts, .int j :: vs, h => by
    simp only [kOk, Bool.and_eq_true, decide_eq_true_eq] at h
    rw [h.1]; exact vrs_cons.mpr ⟨_, _, rfl, vr_int.mpr rfl, kOk_vrs h.2⟩
  | .str l :: ts, .str z :: vs, h => by
    simp only [kOk, Bool.and_eq_true, decide_eq_true_eq] at h
    exact vrs_cons.mpr ⟨_, _, rfl, vr_str.mpr ⟨by rw [h.1.1], sok_of h.1.2⟩, kOk_vrs h.2⟩
  | [], _ :: _, h => by simp [kOk] at h
end
/-! ## int(..) -/
theorem call_intA {X : Cx} : CallR X (.type "int") (fun xs H Q => (∃ i, xs = [.int i] ∧ Q (.int i) H) ∨ ∃ k, xs = [.bl k] ∧ Q (.int (if k then 1 else 0)) H) := call_int1
end AM
set_option maxHeartbeats 4000000
namespace AM
open PySem PySem.Spec PyProof.Rows L2 Eb
/-! ## own operators -/
def noC : T → Prop
  | .cst _ => False
  | .kr _ _ => False
  | .exc _ _ _ _ => False
  | _ => True
@[simp] theorem noC_non : noC .non := trivial
@[simp] theorem noC_bl {b : Bool} : noC (.bl b) := trivial
@[simp] theorem noC_int {b : Int} : noC (.int b) := trivial
@[simp] theorem noC_str {b : List Nat} : noC (.str b) := trivial
@[simp] theorem noC_lst {b : List T} : noC (.lst b) := trivial
@[simp] theorem noC_tup {b : List T} : noC (.tup b) := trivial
@[simp] theorem noC_dct {b : List (TK × T)} : noC (.dct b) := trivial
@[simp] theorem noC_ins {C : String} {b : List (String × T)} : noC (.ins C b) := trivial
@[simp] theorem noC_obj {b : Nat} : noC (.obj b) := trivial
theorem noC_back {Γ : Gm} {G : Gh} {H : Hp} {t : T} {v : V} {u : Value} (h : noC t) (hv : VR Γ G H t v) (r : RelV v u) {Q : Value → Shared → Prop} {s : Shared} (q : Q u s) : PySem.W.CmpBack Q u s := by
  have rf : ∀ a, v = .ref a → PySem.W.CmpBack Q u s := fun a e => by subst e; obtain rfl : u = Value.ref a := r; exact q
  cases t with
  | non => cases vr_non.mp hv; obtain rfl : u = Value.none := r; exact q
  | bl b => cases vr_bl.mp hv; obtain rfl : u = Value.bool b := r; exact q
  | int b => cases vr_int.mp hv; obtain ⟨t, rfl⟩ := r; exact q
  | str b => obtain ⟨rfl, _⟩ := vr_str.mp hv; obtain ⟨t, rfl⟩ := r; exact q
  | cst b => exact h.elim
  | kr k b => exact h.elim
  | exc a dd C fs => exact h.elim
  | scr b => obtain ⟨a, e, _⟩ := vr_scr.mp hv; exact rf a e
  | lst b => obtain ⟨a, us, e, _⟩ := vr_lst.mp hv; exact rf a e
  | tup b => obtain ⟨a, us, e, _⟩ := vr_tup.mp hv; exact rf a e
  | dct b => obtain ⟨a, us, e, _⟩ := vr_dct.mp hv; exact rf a e
  | ins C b => obtain ⟨a, dx, us, e, _⟩ := vr_ins.mp hv; exact rf a e
  | obj b => obtain ⟨a, e, _⟩ := vr_obj.mp hv; exact rf a e
/-- is the right operand's class one that is asked second -/
def nfB (anc : String → List String) (cls : List String) (C : String) (K : PySem.W.Frag) : Bool := (bT ++ cls).all fun s => (subC anc s C && s != C) || PySem.W.notFirst K (ga K C) (tv K s)
def scd (anc : String → List String) (C : String) (o : Option String) : Prop := match o with | some s => (subC anc s C && s != C) = false | none => False
@[simp] theorem scd_some {anc : String → List String} {C s : String} : scd anc C (some s) ↔ (subC anc s C && s != C) = false := Iff.rfl
/-- an operation of two values by their trees -/
abbrev A2X := T → T → Mem → PX → FX → Prop
@[simp] def a2x (f : A2X) (a b : AE) : AE := fun z m P Fx => a z m (fun x m1 => b z m1 (fun y m2 => f x y m2 P Fx) Fx) Fx
@[simp] def fOwn (anc : String → List String) (C : String) (F : AF) : A2X := fun x y m P Fx => clsIs m x C ∧ scd anc C (tyT m y) ∧ F [x, y] m (fun t m3 => noC t ∧ P t m3) Fx
def OpA (c : Cl) (X : Cx) (g : Value → Value → Sem Value) (f : A2X) : Prop := ∀ pins s σ H0 H G0 G m x y v u v' u' P Fx (Q : VK), Inv X pins σ H s → MR (go X c.cls) G m H → Stp G0 H0 G H → VR (go X c.cls) G H x v → VR (go X c.cls) G H y u → RelV v v' → RelV u u' → f x y m P Fx →
  Cont (VR (go X c.cls)) (go X c.cls) c.W G0 H0 σ P Fx Q → wpAny (model X.prog X.w) X.A (g v' u') (EP X pins σ Q) X.xe s
/-- what an operation asks: the method's call -/
def O2 (X : Cx) (C : String) (f : Addr) (g : Value → Value → Sem Value) : Prop := ∀ (pins : List (Addr × Obj)) (s : Shared) (σ : L2.St) (H : Hp) (a dx : Addr) (us : List (Str × V)) (u tb : Value) (Q : Value → Shared → Prop),
  Inv X pins σ H s → H a = some (.ins (ga X.K C) dx us) → PySem.W.Looks (model X.prog X.w) s.heap (typeOf u) tb → PySem.W.notFirst X.K (ga X.K C) tb = true →
  wpAny (model X.prog X.w) X.A (call (.ref f) [.ref a, u]) (PySem.W.CmpBack Q) X.xe s → wpAny (model X.prog X.w) X.A (g (.ref a) u) Q X.xe s
section
variable {gd md : Bool} {c : Cl} {X : Cx} {k j n : Nat} {C : String} {F : AF} {dts : List T} {x m : Str} {p pos apos : Pos} {e o e1 e2 : Expr} {es : List Expr} {a b : AE} {l : AA} {anc : String → List String}
theorem o2_cmp {op : CmpOp} {f : Addr} (hm : Meth X.K (ga X.K C) m f) (hm' : (cmpInfo op).2.1 = m) (hop : ∀ v u, compareOp op v u = richCompare op v u) (hr : Room j X.A) : O2 X C f (compareOp op) := by
  intro pins s σ H a dx us u tb Q I ea ty nf h
  obtain ⟨mA, O, _⟩ := ins_get I.hok ea
  obtain ⟨od, J, _⟩ := O.look
  obtain ⟨m, Fm⟩ := I.fr
  rw [hop]
  exact PySem.W.cmp_K (op := op) (tb := tb) hr.units0 Fm I.ok.mod.kin J ty nf (by rw [hm']; exact hm.at_) hm.fn h
theorem opA_own {g : Value → Value → Sem Value} (h : MetA gd md X.prog X.w X.K X.mg X.base c.cls k C m [] 1 F) (ho : ∀ f, Meth X.K (ga X.K C) m f → O2 X C f g) (hno : ∀ C ∈ c.cls, bT.contains C = false) (hk0 : nfB anc c.cls C X.K = true) (hg : gd = true → X.A.guards = some []) (hr : Room j X.A) (hk : k ≤ j) (tk : Pas md X c.W) : OpA c X g (fOwn anc C F) := by
  obtain ⟨f, fd, ps, ds, dvs, hm, hf, hlen, bd, d, vd⟩ := h.ex
  intro pins s σ H0 H G0 G m0 x y v u v' u' P Fx Q I mr st vx vy rx ry ⟨hc, hs, p3⟩ kk
  obtain ⟨⟨C', fs⟩, e1, e2⟩ := Option.map_eq_some_iff.mp hc
  cases (show C' = C from e2)
  obtain ⟨q, dx, us, rfl, ha, ik, vf⟩ := rdI mr (.inl vx) e1
  unfold scd at hs
  split at hs
  · rename_i sn es
    obtain ⟨ty, mem⟩ := ty_X (Γ := go X c.cls) hno mr (.inl vy) es
    have nf := List.all_eq_true.mp hk0 sn mem
    rw [hs, Bool.false_or] at nf
    obtain rfl : v' = Value.ref q := rx
    obtain ⟨PP, kx, hp, _⟩ := kit_of I ry ty
    have kk' : Cont (VR (go X c.cls)) (go X c.cls) c.W G0 H0 σ (fun t m3 => noC t ∧ P t m3) Fx (fun v H' => (∀ u s (R : Value → Shared → Prop), RelV v u → R u s → PySem.W.CmpBack R u s) ∧ Q v H') := ⟨fun t m' G' v H' ⟨p, p'⟩ s r vr => ⟨fun u s R ru q => noC_back p vr ru q, kk.ok t m' G' v H' p' s r vr⟩, kk.ex⟩
    have sp := call_sp (F := F) (n := ps.length) (vs := [.ref q, u] ++ dvs) (ts := [x, y]) (by rw [List.length_append, hlen, ← (vd G H).length]; rfl) kk' st mr (vrs_cons.mpr ⟨_, _, rfl, vx, vrs_cons.mpr ⟨_, _, rfl, vy, by cases vrs_nil.mp (vd G H); exact vrs_nil.mpr rfl⟩⟩) p3
    refine ho f hm pins s σ H q dx us u' (tv X.K sn) _ I ha (kx.ty _ _ I.kIn hp) nf ?_
    exact thn (runA (us := [.ref q, u']) (vs := [.ref q, u]) hf hg (hr.mono hk) tk bd d I (.cons rfl (.cons ry .nil)) sp) fun w s3 ⟨v', H', I', rv, hcb, q'⟩ => hcb w s3 _ rv ⟨v', H', I', rv, q'⟩
  · exact hs.elim
theorem opA_2 {g : Value → Value → Sem Value} {r : R2} {f : A2} (ho : OpR X g r) (S : Sim2 (go X c.cls) r f) : OpA c X g (fun x y m P _ => f x y m P) :=
  fun pins s σ H0 H G0 G m x y v u v' u' P Fx Q I mr st vx vy rx ry h kk => ho pins s σ H v u v' u' Q I rx ry (S G m H x y v u P Q mr (.inl vx) (.inl vy) h fun t m' G' w H' p s r v => kk.ok t m' G' w H' p (st.trans s) r v)
theorem bin_run {g : Value → Value → Sem Value} {f : A2X} (O : OpA c X g f) (h1 : SE c X e1 a) (h2 : SE c X e2 b) {pins : List (Addr × Obj)} {s : Shared} {σ : L2.St} {H : Hp} {Q : VK} (I : Inv X pins σ H s) (hq : rOf (VR (go X c.cls)) (go X c.cls) c.W (a2x f a b) σ H Q) :
    wpAny (model X.prog X.w) X.A (eval e1 X.env) (fun v s₁ => wpAny (model X.prog X.w) X.A (eval e2 X.env) (fun u s₂ => wpAny (model X.prog X.w) X.A (g v u) (EP X pins σ Q) X.xe s₂) X.xe s₁) X.xe s := by
  obtain ⟨G, z, m0, P, Fx, mr, sr, hl, kk⟩ := hq
  refine binT h1 h2 (R := fun v u H2 => ∃ G2 m2 x y, MR (go X c.cls) G2 m2 H2 ∧ Stp G H G2 H2 ∧ VR (go X c.cls) G2 H2 x v ∧ VR (go X c.cls) G2 H2 y u ∧ f x y m2 P Fx) I ?_ fun v u s2 x y H2 I2 rx ry ⟨G2, m2, xt, yt, r2, st, vx, vy, h⟩ => O pins s2 σ H H2 G G2 m2 xt yt x y v u P Fx Q I2 r2 st vx vy rx ry h kk
  refine ⟨G, z, m0, _, Fx, mr, sr, hl, kk.mv Stp.refl fun x1 m1 G1 v1 H1 p1 s1 r1 b1 => ?_⟩
  exact ⟨G1, z, m1, _, Fx, r1, sr.step mr.nd s1, p1, kk.mv s1 fun y2 m2 G2 v2 H2 p2 s2 r2 b2 => ⟨G2, m2, x1, y2, r2, s1.trans s2, s2.vr b1, b2, p2⟩⟩
theorem se_cmpA {op : CmpOp} {f : A2X} (O : OpA c X (compareOp op) f) (h1 : SE c X e1 a) (h2 : SE c X e2 b) (hmk : behindInMarks op e2 = false := by exact nomark _) : SE c X (.Compare e1 [op] [e2] pos) (a2x f a b) :=
  ⟨fun pins s σ H Q I hq => wpAny_Compare1 (bin_run O h1 h2 I hq) hmk⟩
theorem st_cmpA {op : CmpOp} {f : A2X} (O : OpA c X (compareOp op) f) (h1 : SE c X e1 a) (h2 : SE c X e2 b) (hmk : behindInMarks op e2 = false := by exact nomark _) : ST c X (.Compare e1 [op] [e2] pos) (aTest (a2x f a b)) := by
  refine ⟨fun pins s σ H Q I hq => ?_⟩
  obtain ⟨G, z, m0, P, Fx, mr, sr, hl, kk⟩ := hq
  have := bin_run (Q := fun v H' => ∃ k, v = .bl k ∧ Q k H') O h1 h2 I ⟨G, z, m0, _, Fx, mr, sr, hl, kk.mv Stp.refl fun t m' G' v H' p s r vr => by
    cases t with
    | bl b => exact ⟨b, vr_bl.mp vr, kk.ok b m' G' b H' p s r rfl⟩
    | _ => exact p.elim⟩
  refine wpAny_isTrue_Compare1 (thn this fun v s1 h1 => thn h1 fun u s2 h2 => thn h2 fun c s3 ⟨z, H3, I3, r3, k, e, q3⟩ => ?_) hmk
  subst e
  cases r3
  exact wpAny_truthy_bool ⟨H3, I3, q3⟩
theorem se_binA {op : Operator} {f : A2X} (O : OpA c X (binaryOp op) f) (h1 : SE c X e1 a) (h2 : SE c X e2 b) : SE c X (.BinOp e1 op e2 pos) (a2x f a b) :=
  ⟨fun pins s σ H Q I hq => wpAny_BinOp (bin_run O h1 h2 I hq)⟩
/-! ### == where the one or the other may be an instance of C -/
@[simp] def fEqM (anc : String → List String) (C : String) (F : AF) : A2X := fun x y m P Fx => match asI m x with
  | some _ => fOwn anc C F x y m P Fx
  | none => match asI m y with
    | some (C', _) => C' = C ∧ (match x with | .str _ => True | _ => False) ∧ F [y, x] m (fun t m3 => noC t ∧ P t m3) Fx
    | none => eqA x y m P
theorem opA_eqM (h : MetA gd md X.prog X.w X.K X.mg X.base c.cls k C m [] 1 F) (hm' : (cmpInfo .Eq).2.1 = m) (hs : PySem.W.subIn X.K (.ref (ga X.K C)) (.type "str") = some false) (hno : ∀ C ∈ c.cls, bT.contains C = false) (hk0 : nfB anc c.cls C X.K = true) (hg : gd = true → X.A.guards = some []) (hr : Room j X.A) (hk : k ≤ j) (tk : Pas md X c.W) : OpA c X (compareOp .Eq) (fEqM anc C F) := by
  have O1 : OpA c X (compareOp .Eq) (fOwn anc C F) := opA_own h (fun f hm => o2_cmp (op := .Eq) hm hm' (fun _ _ => rfl) hr) hno hk0 hg hr hk tk
  have O3 : OpA c X (compareOp .Eq) (fun x y m P _ => eqA x y m P) := opA_2 (op_eqD hr.units) sim_eq
  intro pins s σ H0 H G0 G m0 x y v u v' u' P Fx Q I mr st vx vy rx ry hf kk
  unfold fEqM at hf
  split at hf
  · exact O1 pins s σ H0 H G0 G m0 x y v u v' u' P Fx Q I mr st vx vy rx ry hf kk
  · split at hf
    · rename_i C' fs e1
      obtain ⟨rfl, hx, p3⟩ := hf
      obtain ⟨f, fd, ps, ds, dvs, hm, hf, hlen, bd, d, vd⟩ := h.ex
      obtain ⟨a, dx, us, rfl, ea, ik, vf⟩ := rdI mr (.inl vy) e1
      obtain rfl : u' = Value.ref a := ry
      cases x with
      | str lt =>
        obtain ⟨rfl, _⟩ := vr_str.mp vx
        obtain ⟨tk', rfl⟩ := (show ∃ tk, v' = Value.str (tx lt) tk from rx)
        obtain ⟨mA, O, _⟩ := ins_get I.hok ea
        obtain ⟨od, J, _⟩ := O.look
        obtain ⟨m, Fm⟩ := I.fr
        have KX := I.kIn
        have kk' : Cont (VR (go X c.cls)) (go X c.cls) c.W G0 H0 σ (fun t m3 => noC t ∧ P t m3) Fx (fun v H' => (∀ u s (R : Value → Shared → Prop), RelV v u → R u s → PySem.W.CmpBack R u s) ∧ Q v H') := ⟨fun t m' G' v H' ⟨p, p'⟩ s r vr => ⟨fun u s R ru q => noC_back p vr ru q, kk.ok t m' G' v H' p' s r vr⟩, kk.ex⟩
        have sp := call_sp (F := F) (n := ps.length) (vs := [.ref a, .str (tx lt)] ++ dvs) (ts := [y, .str lt]) (by rw [List.length_append, hlen, ← (vd G H).length]; rfl) kk' st mr (vrs_cons.mpr ⟨_, _, rfl, vy, vrs_cons.mpr ⟨_, _, rfl, vx, by cases vrs_nil.mp (vd G H); exact vrs_nil.mpr rfl⟩⟩) p3
        have cal := thn (runA (us := [.ref a, .str (tx lt) tk']) (vs := [.ref a, .str (tx lt)]) hf hg (hr.mono hk) tk bd d I (.cons rfl (.cons ⟨tk', rfl⟩ .nil)) sp) fun w s3 ⟨v', H', I', rv, hcb, q'⟩ => hcb w s3 (EP X pins σ Q) rv ⟨v', H', I', rv, q'⟩
        show wpAny (model X.prog X.w) X.A (richCompare .Eq (.str (tx lt) tk') (.ref a)) (EP X pins σ Q) X.xe s
        unfold richCompare
        refine wpAny_holding (wpAny_bind (wpAny_cRoomFor hr.units0 ?_))
        refine wpAny_bind ((PySem.W.Looks.of_pure rfl : PySem.W.Looks (model X.prog X.w) s.heap (typeOf (.str (tx lt) tk')) (.type "str")).here (wpAny_bind (J.type.here ?_)))
        refine wpAny_bind ((PySem.W.looks_subIn KX hs).here ?_)
        simp only [Bool.false_eq_true, if_false]
        have one : ∀ {R : Option Value → Shared → Prop}, R none s → wpAny (model X.prog X.w) X.A (tryCompare (.str (tx lt) tk') (cmpInfo .Eq).2.1 (.ref a)) R X.xe s := fun {R} hR => by
          unfold tryCompare
          refine wpAny_bind (wpAny_callSpecialIfBound?_slot (T := "str") (typeIs_str s (tx lt) tk') PySem.F.slot_str_eq ?_)
          refine call_meets PySem.F.slot_str_eq (typeIs_str s (tx lt) tk') PySem.F.entry_str_eq (PySem.F.args_str_eq_2 _ _) (str_eq_declines_inst (tx lt) tk' a (ga X.K C') dx) ⟨J.at_, ?_⟩
          exact wpAny_pure hR
        refine wpAny_bind (one ?_)
        simp only [Bool.not_false, if_true]
        have two : wpAny (model X.prog X.w) X.A (tryCompare (.ref a) (cmpInfo .Eq).2.2 (.str (tx lt) tk')) (fun r s' => ∃ z, r = some z ∧ EP X pins σ Q z s') X.xe s := by
          unfold tryCompare
          refine wpAny_bind (PySem.W.ifBound_K KX J (by rw [← hm'] at hm; exact hm.at_) hm.fn ?_)
          refine wpAny_mono cal (fun v s' hv => ?_) fun _ _ e => e
          cases v <;> first | exact hv.elim | exact wpAny_pure ⟨_, rfl, hv⟩
        refine wpAny_bind (thn two fun r s' ⟨z, hz, h⟩ => ?_)
        subst hz
        exact wpAny_pure h
      | _ => exact hx.elim
    · exact O3 pins s σ H0 H G0 G m0 x y v u v' u' P Fx Q I mr st vx vy rx ry hf kk
end
end AM
set_option maxHeartbeats 4000000
namespace AM
open PySem PySem.Spec PyProof.Rows L2 Eb
section
variable {gd md : Bool} {c : Cl} {X : Cx} {k j n : Nat} {C : String} {F : AF} {dts : List T} {x m : Str} {p pos apos : Pos} {e o e1 e2 : Expr} {es : List Expr} {a b : AE} {l : AA} {anc : String → List String}
/-- the callee runs, one deeper -/
theorem runA1 {f : Addr} {fd : FuncData} {ps : List Str} {ds : List Value} {dvs : List V} {pins : List (Addr × Obj)} {σ : L2.St} {H : Hp} {s : Shared} {Q : VK} {us : List Value} {vs : List V} (h : Fa gd md X.prog X.w X.K X.mg X.base c.cls k f fd ps F) (hg : gd = true → X.A.guards = some []) (hr : Room (k + 1) X.A) (tk : Pas md X c.W) (hb : Binds X.K fd ps ds) (hd : Vals dvs ds)
    (I : Inv X pins σ H s) (r : Vals vs us) (hs : spA (go X c.cls) ps.length F (vs ++ dvs) H Q (fun cl d H => c.W cl d σ H)) {R : Except Value Flow → Shared → Prop} (ok : ∀ v s', EP X pins σ Q v s' → R (.ok (.ret v)) s') (er : md = true → ∀ e s', X.xe e s' → R (.error e) s') :
    codeAny (model X.prog X.w) X.A.in1 (.call (.ref f) ⟨us, []⟩) R s := by
  have r2 : Vals (vs ++ dvs) (us ++ ds) := r.append hd
  have hl : (us ++ ds).length = ps.length := r2.length ▸ hs.1
  have hg' : gd = true → X.A.in1.guards = some [] := hg
  cases md with
  | true =>
    have tk : Takes X c.W := tk
    refine codeAny_mono (h.run X.A.in1 X.stack s H ⟨us, []⟩ (us ++ ds) (vs ++ dvs) Q (WE c.W σ) hg' hr.in1 I.env0.in1 (hb s us I.kIn hl) r2 hs) fun r s' hq => ?_
    cases r with
    | error e => exact er rfl e s' (passAt tk σ pins H s e s' I hq)
    | ok fl => cases fl <;> first | exact ok _ _ (I.after hq) | exact False.elim hq
  | false =>
    have tk : c.W = noW := tk
    rw [tk] at hs
    refine codeAny_mono (h.run X.A.in1 X.stack s H ⟨us, []⟩ (us ++ ds) (vs ++ dvs) Q noE hg' hr.in1 I.env0.in1 (hb s us I.kIn hl) r2 hs) fun r s' hq => ?_
    cases r with
    | error e => exact False.elim hq
    | ok fl => cases fl <;> first | exact ok _ _ (I.after hq) | exact False.elim hq
/-- an operation of one value by its tree -/
abbrev A1X := T → Mem → PX → FX → Prop
@[simp] def a1x (f : A1X) (a : AE) : AE := fun z m P Fx => a z m (fun x m1 => f x m1 P Fx) Fx
def Op1 (c : Cl) (X : Cx) (g : Value → Sem Value) (f : A1X) : Prop := ∀ pins s σ H0 H G0 G m x v v' P Fx (Q : VK), Inv X pins σ H s → MR (go X c.cls) G m H → Stp G0 H0 G H → VR (go X c.cls) G H x v → RelV v v' → f x m P Fx →
  Cont (VR (go X c.cls)) (go X c.cls) c.W G0 H0 σ P Fx Q → wpAny (model X.prog X.w) X.A (g v') (EP X pins σ Q) X.xe s
theorem op1_run {g : Value → Sem Value} {f : A1X} (O : Op1 c X g f) (h1 : SE c X e1 a) {pins : List (Addr × Obj)} {s : Shared} {σ : L2.St} {H : Hp} {Q : VK} (I : Inv X pins σ H s) (hq : rOf (VR (go X c.cls)) (go X c.cls) c.W (a1x f a) σ H Q) :
    wpAny (model X.prog X.w) X.A (eval e1 X.env) (fun v s₁ => wpAny (model X.prog X.w) X.A (g v) (EP X pins σ Q) X.xe s₁) X.xe s := by
  obtain ⟨G, z, m0, P, Fx, mr, sr, hl, kk⟩ := hq
  refine thn (h1.run pins s σ H (fun v H2 => ∃ G2 m2 x, MR (go X c.cls) G2 m2 H2 ∧ Stp G H G2 H2 ∧ VR (go X c.cls) G2 H2 x v ∧ f x m2 P Fx) I ?_) fun v s2 ⟨x, H2, I2, rx, G2, m2, xt, r2, st, vx, h⟩ => O pins s2 σ H H2 G G2 m2 xt x v P Fx Q I2 r2 st vx rx h kk
  exact ⟨G, z, m0, _, Fx, mr, sr, hl, kk.mv Stp.refl fun x1 m1 G1 v1 H1 p1 s1 r1 b1 => ⟨G1, m1, x1, r1, s1, b1, p1⟩⟩
/-- what the own method's run needs, at an instance -/
theorem own_sp {f : Addr} {ps : List Str} {dvs : List V} {σ : L2.St} {H0 H : Hp} {G0 G : Gh} {m0 : Mem} {P P' : PX} {Fx : FX} {Q Q' : VK} {ts : List T} {vs : List V} (hlen : ps.length = ts.length + dts.length) (vd : ∀ G H, VRs (go X c.cls) G H dts dvs) (st : Stp G0 H0 G H) (mr : MR (go X c.cls) G m0 H) (vx : VRs (go X c.cls) G H ts vs)
    (kk : Cont (VR (go X c.cls)) (go X c.cls) c.W G0 H0 σ P Fx Q) (ok : ∀ t m' G' v H', P' t m' → Stp G0 H0 G' H' → MR (go X c.cls) G' m' H' → VR (go X c.cls) G' H' t v → Q' v H') (h : F (ts ++ dts) m0 P' Fx) : spA (go X c.cls) ps.length F (vs ++ dvs) H Q' (fun cl d H => c.W cl d σ H) := by
  have kk' : Cont (VR (go X c.cls)) (go X c.cls) c.W G0 H0 σ P' Fx Q' := ⟨ok, kk.ex⟩
  exact call_sp (by rw [List.length_append, hlen, vx.length, (vd G H).length]) kk' st mr (vx.app (vd G H)) h
/-! ### len of an instance -/
@[simp] def fLen (C : String) (F : AF) : A1X := fun x m P Fx => match asI m x with
  | some (C', _) => C' = C ∧ F [x] m (fun t m3 => (match t with | .int i => 0 ≤ i ∧ i < 2 ^ 63 | _ => False) ∧ P t m3) Fx
  | none => lenA [x] m P
theorem op1_L {id : String} {r : List V → Hp → VK → Prop} {f : List T → Mem → PX → Prop} (ho : CallR X (.builtin id) r) (S : SimL (go X c.cls) r f) : Op1 c X (fun v => call (.builtin id) [v]) (fun x m P _ => f [x] m P) :=
  fun pins s σ H0 H G0 G m x v v' P Fx Q I mr st vx rx h kk => ho pins s σ H [v] [v'] Q I (.cons rx .nil) (S G m H [x] [v] P Q mr (.cons (.inl vx) .nil) h fun t m' G' w H' p s r v => kk.ok t m' G' w H' p (st.trans s) r v)
theorem op1_len (h : MetA gd md X.prog X.w X.K X.mg X.base c.cls k C "__len__" [] 0 F) (hg : gd = true → X.A.guards = some []) (hr : Room j X.A) (hk : k + 1 ≤ j) (tk : Pas md X c.W) : Op1 c X (fun v => call (.builtin "len") [v]) (fLen C F) := by
  have O2 : Op1 c X (fun v => call (.builtin "len") [v]) (fun x m P _ => lenA [x] m P) := op1_L call_len sim_len
  obtain ⟨f, fd, ps, ds, dvs, hm, hf, hlen, bd, d, vd⟩ := h.ex
  intro pins s σ H0 H G0 G m0 x v v' P Fx Q I mr st vx rx hq kk
  unfold fLen at hq
  split at hq
  · rename_i C' fs e1
    obtain ⟨rfl, p3⟩ := hq
    obtain ⟨q, dx, us, rfl, ha, ik, vf⟩ := rdI mr (.inl vx) e1
    obtain rfl : v' = Value.ref q := rx
    obtain ⟨mA, O, _⟩ := ins_get I.hok ha
    obtain ⟨od, J, _⟩ := O.look
    obtain ⟨m, Fm⟩ := I.fr
    have sp := own_sp (f := f) (F := F) (ps := ps) (dts := []) (dvs := dvs) (ts := [x]) (vs := [.ref q]) (Q' := fun v H' => ∃ i : Int, v = .int i ∧ (0 ≤ i ∧ i < 2 ^ 63) ∧ Q v H') (by rw [hlen]; rfl) vd st mr (VRs.one vx) kk (fun t m' G' v H' ⟨p, p'⟩ s r vr => by
      cases t with
      | int i => cases vr_int.mp vr; exact ⟨i, rfl, p, kk.ok _ m' G' _ H' p' s r vr⟩
      | _ => exact p.elim) p3
    refine PySem.W.len_K Fm I.ok.mod.kin J hm.at_ hm.fn (wpAny_call (runA1 hf hg (hr.mono hk) tk bd d I (us := [.ref q]) (vs := [.ref q]) (.cons rfl .nil) sp (fun w s3 ⟨v', H', I', rv, i, ei, hi, q'⟩ => ?_) fun _ e s' z => z))
    subst ei
    obtain ⟨t, rfl⟩ := rv
    exact ⟨hi, .int i, H', I'.tok _, ⟨_, rfl⟩, q'⟩
  · exact O2 pins s σ H0 H G0 G m0 x v v' P Fx Q I mr st vx rx hq kk
theorem se_blt1 {id : String} {f : A1X} (O : Op1 c X (fun v => call (.builtin id) [v]) f) (hg : Gl X x) (hm : X.mg x = none) (hv : bootBuiltins x = some (.builtin id)) (h1 : SE c X e1 a) (hn : x ≠ "__name__" := by decide) (hdb : (x == ("__debug__" : Str)) = false := by decide)
    (he : starEach [e1] X.env = (false, eval e1 X.env) :: starEach [] X.env := by rfl) : SE c X (.Call (.Name x p) [e1] [] pos) (a1x f a) := by
  refine ⟨fun pins s σ H Q I hq => ?_⟩
  refine wpAny_Call_Name_kw (ld_blt I hg hm hv ?_ hn hdb)
  obtain ⟨G, z, m0, P, Fx, mr, sr, hl, kk⟩ := hq
  refine PyProof.Rows.callWith_builtin1 (rest := []) (thn ((pa_cons h1 pa_nil he).run pos pins s σ H (fun vs H2 => ∃ v G2 m2 x, vs = [v] ∧ MR (go X c.cls) G2 m2 H2 ∧ Stp G H G2 H2 ∧ VR (go X c.cls) G2 H2 x v ∧ f x m2 P Fx) I ?_) fun us s2 ⟨vs, H2, I2, rx, v, G2, m2, xt, ev, r2, st, vx, h⟩ => ?_) he rfl
  · exact ⟨G, z, m0, _, Fx, mr, sr, hl, kk.mv Stp.refl fun x1 m1 G1 v1 H1 p1 s1 r1 b1 => ⟨v1, G1, m1, x1, rfl, r1, s1, b1, p1⟩⟩
  · subst ev
    cases rx with
    | cons r1 rr => cases rr; exact O pins s2 σ H H2 G G2 m2 xt v _ P Fx Q I2 r2 st vx r1 h kk
/-! ### o[i] by an own __getitem__ -/
@[simp] def fGet (C : String) (F : AF) : A2X := fun x y m P Fx => clsIs m x C ∧ F [x, y] m P Fx
theorem se_oget (h : MetA gd md X.prog X.w X.K X.mg X.base c.cls k C "__getitem__" [] 1 F) (hfi : ∀ f, Meth X.K (ga X.K C) "__getitem__" f → PySem.W.fnIn X.K f = true) (hg : gd = true → X.A.guards = some []) (hr : Room j X.A) (hk : k + 1 ≤ j) (tk : Pas md X c.W) (h1 : SE c X e1 a) (h2 : SE c X e2 b)
    (hsl : ∀ v i, subscripted e2 true v i = runValue (.builtin "lifetime.subscript" ⟨[v, i], []⟩) := by intro _ _; with_unfolding_all rfl) : SE c X (.Subscript e1 e2 pos) (a2x (fGet C F) a b) := by
  obtain ⟨f, fd, ps, ds, dvs, hm, hf, hlen, bd, d, vd⟩ := h.ex
  have O : OpA c X (subscriptTail e1 e2) (fGet C F) := by
    intro pins s σ H0 H G0 G m0 x y v u v' u' P Fx Q I mr st vx vy rx ry ⟨hc, p3⟩ kk
    obtain ⟨⟨C', fs⟩, e1, e2⟩ := Option.map_eq_some_iff.mp hc
    cases (show C' = C from e2)
    obtain ⟨q, dx, us, rfl, ha, ik, vf⟩ := rdI mr (.inl vx) e1
    obtain rfl : v' = Value.ref q := rx
    obtain ⟨mA, O, _⟩ := ins_get I.hok ha
    obtain ⟨od, J, _⟩ := O.look
    obtain ⟨m, Fm⟩ := I.fr
    have sp := own_sp (f := f) (F := F) (ps := ps) (dts := []) (dvs := dvs) (ts := [x, y]) (vs := [.ref q, u]) (by rw [hlen]; rfl) vd st mr (vrs_cons.mpr ⟨_, _, rfl, vx, VRs.one vy⟩) kk kk.ok p3
    exact PySem.W.sub_K Fm I.ok.mod.kin J hm.at_ (hfi f hm) hm.fn (wpAny_call (runA1 hf hg (hr.mono hk) tk bd d I (us := [.ref q, u']) (vs := [.ref q, u]) (.cons rfl (.cons ry .nil)) sp (fun w s3 z => z) fun _ e s' z => z)) (hsl _ _)
  exact ⟨fun pins s σ H Q I hq => Subscript_ (bin_run O h1 h2 I hq)⟩
end
end AM
set_option maxHeartbeats 4000000
namespace AM
open PySem PySem.Spec PyProof.Rows L2 Eb
section
variable {gd md : Bool} {c : Cl} {X : Cx} {k j n : Nat} {C : String} {F : AF} {dts : List T} {x m : Str} {p pos apos : Pos} {e o i e1 e2 : Expr} {es : List Expr} {a b : AE} {l : AA} {anc : String → List String}
theorem ContG.c' {Γ : Gm} {W : WX} {G : Gh} {H : Hp} {Q : L2.St → Hp → Prop} {α β : Type} {Rl : Gh → Hp → α → β → Prop} {z : SS} {σ : L2.St} {P : SS → Mem → Prop} {Fx : SS → FX} {P' : α → Mem → Prop} {Q' : β → Hp → Prop} (k : ContG Γ W G H P Fx Q) (n : G.all.Nodup) (sr : SR Γ G H z σ)
    (ok : ∀ t m' G' v H', P' t m' → Stp G H G' H' → MR Γ G' m' H' → Rl G' H' t v → Q' v H') : Cont Rl Γ W G H σ P' (Fx z) Q' :=
  ⟨ok, fun x m' G' H' c d h1 h2 h3 h4 => k.ex z x m' G' σ H' c d h1 h2.ss h3 (sr.step n h2) h4⟩
/-! ### o[i] = v by an own __setitem__ -/
@[simp] def gO (C : String) (F : AF) (a b : AE) : AGt := fun t z m P Fx => a z m (fun x m1 => b z m1 (fun y m2 => clsIs m2 x C ∧ F [x, y, t] m2 (fun _ m3 => P z m3) (Fx z)) (Fx z)) (Fx z)
theorem sg_own (h : MetA gd md X.prog X.w X.K X.mg X.base c.cls k C "__setitem__" [] 2 F) (nq : PySem.W.noSeq X.K (ga X.K C) = true) (hg : gd = true → X.A.guards = some []) (hr : Room j X.A) (hk : k ≤ j) (tk : Pas md X c.W) (ho : SE c X o a) (hi : SE c X i b)
    (ha : ∀ v, assign (.Subscript o i pos) X.env v = (do
      let ov ← holding [v] (eval o X.env)
      let iv ← holding [v, ov] (eval i X.env)
      standAt pos
      holding [v, ov, iv] (setItem ov iv v)
      release [v, ov, iv] []) := by intro _; rfl) : SG c X (.Subscript o i pos) (gO C F a b) := by
  obtain ⟨f, fd, ps, ds, dvs, hm, hf, hlen, bd, d, vd⟩ := h.ex
  refine ⟨fun pins s σ H v u Q I r hq => ?_⟩
  obtain ⟨G, z, m0, t, P, Fx, mr, sr, vt, hl, kk⟩ := hq
  rw [ha]
  refine wpAny_bind (wpAny_holding (thn (ho.run pins s σ H (fun x H1 => rOf (VR (go X c.cls)) (go X c.cls) c.W b σ H1 fun y H2 => ∃ (q dx : Addr) (us : List (Str × V)), x = .ref q ∧ H2 q = some (.ins (ga X.K C) dx us) ∧ spA (go X c.cls) ps.length F ([.ref q, y, v] ++ dvs) H2 (fun _ H' => Q σ H') (fun cl d H => c.W cl d σ H)) I ?_) fun ov s1 ⟨x, H1, I1, r1, q1⟩ => ?_))
  · refine ⟨G, z, m0, _, Fx z, mr, sr, hl, kk.c' mr.nd sr fun x1 m1 G1 v1 H1 p1 s1 r1 b1 => ?_⟩
    refine ⟨G1, z, m1, _, Fx z, r1, sr.step mr.nd s1, p1, (kk.c' (P' := fun (t : T) m => True ∧ False) (Rl := VR (go X c.cls)) (Q' := fun _ _ => True) mr.nd sr (fun _ _ _ _ _ _ _ _ _ => trivial)).mv s1 fun y2 m2 G2 v2 H2 p2 s2 r2 b2 => ?_⟩
    obtain ⟨hc, p3⟩ := p2
    obtain ⟨⟨C', fs⟩, e1, e2⟩ := Option.map_eq_some_iff.mp hc
    cases (show C' = C from e2)
    obtain ⟨q, dx, us, rfl, ha, ik, vf⟩ := rdI r2 (.inl (s2.vr b1)) e1
    refine ⟨q, dx, us, rfl, ha, ?_⟩
    exact own_sp (f := f) (F := F) (ps := ps) (dts := []) (dvs := dvs) (ts := [x1, y2, t]) (vs := [.ref q, v2, v]) (by rw [hlen]; rfl) vd (s1.trans s2) r2 (vrs_cons.mpr ⟨_, _, rfl, s2.vr b1, vrs_cons.mpr ⟨_, _, rfl, b2, VRs.one ((s1.trans s2).vr vt)⟩⟩) (kk.c' (P' := fun (_ : T) m => P z m) (Q' := fun _ H => Q σ H) (Rl := VR (go X c.cls)) mr.nd sr fun t m' G' v H' p s r _ => kk.ok z m' G' σ H' p s.ss r (sr.step mr.nd s)) (fun t m' G' v H' p s r _ => kk.ok z m' G' σ H' p s.ss r (sr.step mr.nd s)) p3
  · refine wpAny_bind (wpAny_holding (thn (hi.run pins s1 σ H1 _ I1 q1) fun iv s2 ⟨y, H2, I2, r2, q, dx, us, ex, ea, sp⟩ => ?_))
    subst ex
    obtain rfl : ov = Value.ref q := r1
    obtain ⟨mA, O, _⟩ := ins_get I2.hok ea
    obtain ⟨od, J, _⟩ := O.look
    obtain ⟨m, Fm⟩ := I2.fr
    refine wpAny_bind (wpAny_standAt (wpAny_bind (wpAny_holding (PySem.W.ksp_setItem Fm I2.ok.mod.kin J nq hm.at_ hm.fn ?_))))
    exact thn (runA (us := [.ref q, iv, u]) (vs := [.ref q, y, v]) hf hg (hr.mono hk) tk bd d I2 (.cons rfl (.cons r2 (.cons r .nil))) sp) fun _ s' ⟨_, H', I', _, q'⟩ => wpAny_release ⟨σ, H', I', q'⟩
/-! ### properties -/
structure PrpA (gd md : Bool) (P : Program) (w : World) (K : PySem.W.Frag) (mg : Str → Option Value) (base : Heap) (cls : List String) (k : Nat) (C : String) (f : Str) (F : AF) : Prop where
  ex : ∃ (p g : Addr) (fd : FuncData), PropOf K (ga K C) f p g ∧ Fa gd md P w K mg base cls k g fd ["self"] F ∧ Binds K fd ["self"] []
@[simp] def fProp (C : String) (F : AF) : A1X := fun x m P Fx => clsIs m x C ∧ F [x] m P Fx
theorem se_prop {f : Str} (h : PrpA gd false X.prog X.w X.K X.mg X.base c.cls k C f F) (hg : gd = true → X.A.guards = some []) (hr : Room j X.A) (hk : k + 1 ≤ j) (tk : Pas false X c.W) (h1 : SE c X e1 a) (hab : attributeBase e1 f X.env (eval e1 X.env) = eval e1 X.env := by rfl) : SE c X (.Attribute e1 f pos) (a1x (fProp C F) a) := by
  obtain ⟨pp, g, fd, hp, hf, bd⟩ := h.ex
  have O : Op1 c X (fun v => getAttr v f true) (fProp C F) := by
    intro pins s σ H0 H G0 G m0 x v v' P Fx Q I mr st vx rx ⟨hc, p3⟩ kk
    obtain ⟨⟨C', fs⟩, e1, e2⟩ := Option.map_eq_some_iff.mp hc
    cases (show C' = C from e2)
    obtain ⟨q, dx, us, rfl, ha, ik, vf⟩ := rdI mr (.inl vx) e1
    obtain rfl : v' = Value.ref q := rx
    obtain ⟨mA, O, _, _, _, _⟩ := ins_get I.hok ha
    obtain ⟨od, J, _⟩ := O.look
    obtain ⟨rest, hrec⟩ := hp.rec_
    have I1 := I.tok (s.toks + 1)
    have hcl : (PySem.W.clsIn X.K (ga X.K C)).isSome = true := by
      obtain ⟨cd, hc, _⟩ := PySem.W.any_some ik.cl.hd
      rw [hc]
      rfl
    have sp := own_sp (f := g) (F := F) (ps := ["self"]) (dts := []) (dvs := []) (ts := [x]) (vs := [.ref q]) rfl (fun _ _ => vrs_nil.mpr rfl) st mr (VRs.one vx) kk kk.ok p3
    refine PySem.W.get_bind I.kIn J (PySem.W.plainGet_of (ik.cl.get f)).1 (PySem.W.findObj_data hcl hp.at_ hp.get hp.tak) (PySem.W.plainGet_of (ik.cl.get f)).2 (wpAny_call (PySem.W.prop_get (s := { s with toks := s.toks + 1 }) I.kIn hrec ?_))
    refine runA1 (us := [.ref q]) (vs := [.ref q]) hf hg (hr.mono hk) tk bd .nil I1 (.cons rfl .nil) sp (fun u s3 ⟨v, H', I3, rv, q3⟩ => ?_) (fun z => nomatch z)
    show wpAny _ _ (handedOut u) _ _ _
    rw [PySem.W.handedOut_of (handed_of rv)]
    exact wpAny_pure ⟨v, H', I3, rv, q3⟩
  exact ⟨fun pins s σ H Q I hq => attr_of hab (op1_run O h1 I hq)⟩
/-! ### constants of a class -/
theorem se_cval {f : Str} {C' : Addr} {mc : Value} {q : Addr} {xs : List V} {ts : List T} (hc : PE X e1 (tC (.ref C'))) (r : ClX.CRead X.K C' mc) (v : ClX.CVal X.K C' mc f (.ref q) (.ref q)) (hk : ∀ H : Hp, SqT X.K H q xs) (hv : ∀ G H, VRs (go X c.cls) G H ts xs) (hb : attributeBase e1 f X.env (eval e1 X.env) = eval e1 X.env := by rfl) : SE c X (.Attribute e1 f pos) (aC (.tup ts)) :=
  se_ktup (a := q) (pe_weak (ClX.pe_cval hc hb) fun σ H Q h => ⟨C', mc, .ref q, .ref q, rfl, r, v, h⟩) hk hv
theorem se_cvalI {f : Str} {C' : Addr} {mc : Value} {n : Int} {u : Value} (hc : PE X e1 (tC (.ref C'))) (r : ClX.CRead X.K C' mc) (v : ClX.CVal X.K C' mc f (.int n) u) (hb : attributeBase e1 f X.env (eval e1 X.env) = eval e1 X.env := by rfl) : SE c X (.Attribute e1 f pos) (aC (.int n)) :=
  se_int (pe_weak (ClX.pe_cval hc hb) fun σ H Q h => ⟨C', mc, .int n, u, rfl, r, v, h⟩)
end
end AM
set_option maxHeartbeats 4000000
namespace AM
open PySem PySem.Spec PyProof.Rows L2 Eb
/-! ## what the head tells: defs at any address -/
structure DefP where
  adr : PySem.W.Frag → Addr
  name : Str
  qual : Str
  params : Arguments
  body : List Stmt
  scope : Scope
  dfl : List He.Dv := []
def DefP.val (d : DefP) : He.FnW := some (d.name, d.qual, d.params, .stmts d.body, d.scope, mainGlobals, [], builtinsNs)
def DefP.dvs (K : PySem.W.Frag) (d : DefP) : List V := d.dfl.map (He.Dv.v K)
def fnP (K : PySem.W.Frag) (a : Addr) : He.FnW := match K.lookup a with
  | some ⟨_, _, .func fd, _⟩ => some (fd.name, fd.qualname, fd.params, fd.body, fd.scope, fd.globals, fd.closure, fd.builtins)
  | _ => none
def DefP.ok (K : PySem.W.Frag) (d : DefP) : Bool := PySem.W.keepIn K (.ref (d.adr K)) && (match K.lookup (d.adr K) with
  | some ⟨_, _, .func fd, _⟩ => PySem.W.codeIn K fd.code d.qual && He.dflB K fd.defaults (d.dvs K)
  | _ => false)
theorem DefP.funD {K : PySem.W.Frag} {d : DefP} (e : fnP K (d.adr K) = d.val) (c : d.ok K = true) : ∃ fd, FunD K d.name d.qual d.params d.body d.scope (d.dvs K) [] (d.adr K) fd := by
  obtain ⟨kp, c2⟩ := He.ba c
  unfold fnP at e
  cases q : K.lookup (d.adr K) with
  | none =>
    rw [q] at c2
    cases c2
  | some o =>
    obtain ⟨oc, od, dt, osl⟩ := o
    rw [q] at c2 e
    cases dt with
    | func fd =>
      obtain ⟨n1, n2, n3, n4, n5, n6, n7, n8, n9, n10, n11, n12, n13, n14, n15⟩ := fd
      have e2 : (some (n1, n2, n3, n4, n5, n6, n7, n15) : He.FnW) = some (d.name, d.qual, d.params, .stmts d.body, d.scope, mainGlobals, [], builtinsNs) := e
      simp only [Option.some.injEq, Prod.mk.injEq] at e2
      obtain ⟨h1, h2, h3, h4, h5, h6, h7, h8⟩ := e2
      subst h1 h2 h3 h4 h5 h6 h7 h8
      have c3 : (PySem.W.codeIn K n13 d.qual && He.dflB K n8 (d.dvs K)) = true := c2
      obtain ⟨k1, k3⟩ := He.ba c3
      exact ⟨_, ⟨oc, od, n8, n9, n10, n11, n12, n13, n14, osl, rfl, q, k1, He.dflB_ok k3, .inl rfl⟩, kp⟩
    | _ => cases c2
def valP (fn : List DefP) : He.AlD := (true, fn.map DefP.val)
def obsY (cs : List (PySem.W.Frag → Bool)) (fn : List DefP) (K : PySem.W.Frag) : He.AlD := ((cs.all fun c => c K) && fn.all fun d => d.ok K, fn.map fun d => fnP K (d.adr K))
def SaysY (cs : List (PySem.W.Frag → Bool)) (fn : List DefP) (K : PySem.W.Frag) : Prop := obsY cs fn K = valP fn
def obsYG (n : Nat) (cs : List (PySem.W.Frag → Bool)) (fn : List DefP) (g : Addr → Option Obj) : He.AlD := obsY cs fn (He.frG g (cStatics :: He.asD g n))
def hookY (n : Nat) (cs : List (PySem.W.Frag → Bool)) (fn : List DefP) : PySem.W.Hook where
  α := He.AlD
  obs := fun s => obsYG n cs fn s.heap.get?
  val := fun _ => valP fn
  says := fun _ h => ∃ K : PySem.W.Frag, K.In h ∧ SaysY cs fn K
  of := fun _ _ e => ⟨_, He.frG_in, e⟩
  keeps := fun _ _ _ ⟨K, hK, c⟩ k => ⟨K, hK.keeps k, c⟩
theorem obsYG_eq {n : Nat} {cs : List (PySem.W.Frag → Bool)} {fn : List DefP} {g : Addr → Option Obj} {s : Shared} (h : ∀ a, g a = s.heap.get? a) : obsYG n cs fn g = (hookY n cs fn).obs s := by
  rw [show g = s.heap.get? from funext h]; rfl
section
variable {cs : List (PySem.W.Frag → Bool)} {fn : List DefP} {K : PySem.W.Frag}
theorem SaysY.look (c : SaysY cs fn K) (i : Nat) {f : PySem.W.Frag → Bool} (h : cs[i]? = some f := by rfl) : f K = true := by
  have c1 : ((cs.all fun c => c K) && fn.all fun d => d.ok K) = true := congrArg (fun z : He.AlD => z.1) c
  exact List.all_eq_true.mp (He.ba c1).1 f (List.mem_of_getElem? h)
theorem SaysY.defd (c : SaysY cs fn K) (i : Nat) {d : DefP} (h : fn[i]? = some d := by rfl) : ∃ fd, FunD K d.name d.qual d.params d.body d.scope (d.dvs K) [] (d.adr K) fd := by
  have c1 : ((cs.all fun c => c K) && fn.all fun d => d.ok K) = true := congrArg (fun z : He.AlD => z.1) c
  have e : fn.map (fun d => fnP K (d.adr K)) = fn.map DefP.val := congrArg (fun z : He.AlD => z.2) c
  have e2 := congrArg (fun l => l[i]?) e
  simp only [List.getElem?_map, h, Option.map_some] at e2
  exact DefP.funD (Option.some.inj e2) (List.all_eq_true.mp (He.ba c1).2 d (List.mem_of_getElem? h))
end
/-! ### properties -/
def pgt (K : PySem.W.Frag) (C f : Str) : Addr := match PySem.W.recIn K (He.ma K (He.ga K C) f) "property" with
  | some (.ref g :: _) => g
  | _ => 0
def pst (K : PySem.W.Frag) (C f : Str) : Addr := match PySem.W.recIn K (He.ma K (He.ga K C) f) "property" with
  | some (_ :: .ref g :: _) => g
  | _ => 0
def propB (C f : Str) (K : PySem.W.Frag) : Bool := He.eqO (PySem.W.findIn K (.ref (He.ga K C)) f) (some (some (.ref (He.ma K (He.ga K C) f)))) && (He.eqO (PySem.W.specialIn K (.ref (He.ma K (He.ga K C) f)) "__get__") (some (some (.builtin "property.__get__"))) &&
  (decide (PySem.W.takesIn K (.ref (He.ma K (He.ga K C) f)) = some true) && (match PySem.W.recIn K (He.ma K (He.ga K C) f) "property" with | some (.ref _ :: _) => true | _ => false)))
theorem prop_ok {C f : Str} {K : PySem.W.Frag} (h : propB C f K = true) : PropOf K (He.ga K C) f (He.ma K (He.ga K C) f) (pgt K C f) := by
  obtain ⟨h1, h2⟩ := He.ba h
  obtain ⟨h3, h4⟩ := He.ba h2
  obtain ⟨h5, h6⟩ := He.ba h4
  refine ⟨He.eqO_ok h1, He.eqO_ok h3, of_decide_eq_true h5, ?_⟩
  unfold pgt
  split at h6
  · rename_i g r e; rw [e]; exact ⟨r, rfl⟩
  · cases h6
/-! ### values of a class -/
def cva (K : PySem.W.Frag) (C f : Str) : Addr := match PySem.W.findCls K (.ref (He.ga K C)) (.type "type") f with
  | some (.val (.ref q)) => q
  | _ => 0
def creadB (C : Str) (K : PySem.W.Frag) : Bool := PySem.W.readsIn K (He.ga K C) (.type "type") && He.eqO (PySem.W.specialIn K (.ref (He.ga K C)) "__getattribute__") (some (some (.builtin "type.__getattribute__")))
theorem cread_ok {C : Str} {K : PySem.W.Frag} (h : creadB C K = true) : ClX.CRead K (He.ga K C) (.type "type") := by
  obtain ⟨h1, h2⟩ := He.ba h
  exact ⟨h1, He.eqO_ok h2⟩
def cvalTB (C f : Str) (vs : List He.Dv) (K : PySem.W.Frag) : Bool := (match PySem.W.findCls K (.ref (He.ga K C)) (.type "type") f with | some (.val (.ref _)) => true | _ => false) && (match K.lookup (cva K C f) with
  | some ⟨.type c, _, .seq its _, _⟩ => decide (c = "tuple") && (decide (its.size ≤ sizeLine) && He.relAll (vs.map (He.Dv.v K)) its.toList)
  | _ => false)
theorem cvalT_ok {C f : Str} {vs : List He.Dv} {K : PySem.W.Frag} (h : cvalTB C f vs K = true) : ClX.CVal K (He.ga K C) (.type "type") f (.ref (cva K C f)) (.ref (cva K C f)) ∧ ∀ H : Hp, SqT K H (cva K C f) (vs.map (He.Dv.v K)) := by
  obtain ⟨h1, h2⟩ := He.ba h
  refine ⟨⟨?_, rfl⟩, fun H => ?_⟩
  · unfold cva
    split at h1
    · rename_i q e; rw [e]
    · cases h1
  · cases q : K.lookup (cva K C f) with
    | none => rw [q] at h2; cases h2
    | some o =>
      obtain ⟨oc, od, dt, osl⟩ := o
      rw [q] at h2
      cases oc with
      | type c =>
        cases dt with
        | seq its n =>
          obtain ⟨a1, a2⟩ := He.ba (show (decide (c = "tuple") && (decide (its.size ≤ sizeLine) && He.relAll (vs.map (He.Dv.v K)) its.toList)) = true from h2)
          obtain ⟨a3, a4⟩ := He.ba a2
          cases of_decide_eq_true a1
          exact .inr ⟨_, its, n, q, rfl, rfl, of_decide_eq_true a3, He.relAll_ok a4⟩
        | _ => cases h2
      | _ => cases h2
def cvalIB (C f : Str) (n : Int) (K : PySem.W.Frag) : Bool := match PySem.W.findCls K (.ref (He.ga K C)) (.type "type") f with | some (.val (.int i _)) => decide (i = n) | _ => false
theorem cvalI_ok {C f : Str} {n : Int} {K : PySem.W.Frag} (h : cvalIB C f n K = true) : ∃ u, ClX.CVal K (He.ga K C) (.type "type") f (.int n) u := by
  unfold cvalIB at h
  split at h
  · rename_i i t e
    cases of_decide_eq_true h
    exact ⟨_, e, ⟨t, rfl⟩⟩
  · cases h
theorem prpA {gd : Bool} {P : Program} {w : World} {K : PySem.W.Frag} {mg : Str → Option Value} {base : Heap} {cls : List String} {k : Nat} {C : String} {f x qual : Str} {p g : Addr} {N : List Str} {params : Arguments} {body : List Stmt} {scope : Scope} {a : AS} (hp : PropOf K (ga K C) f p g) (h : ∃ fd, FunD K x qual params body scope [] [] g fd) (S : FnScope N ["self"] scope) (bd : Bd x qual params body scope ["self"]) (hb : By0 gd P w K mg base cls k g N qual body scope a) : PrpA gd false P w K mg base cls (k + 1) C f (fB N.length a) := by
  obtain ⟨fd, F⟩ := h
  exact ⟨p, g, fd, hp, fa0 F S hb, F.bindsN bd⟩
theorem meth_adr {K : PySem.W.Frag} {C f : Addr} {m : Str} (h : Meth K C m f) : f = He.ma K C m := by
  unfold He.ma
  rw [h.at_]
theorem fi_of {K : PySem.W.Frag} {C : Addr} {m : Str} (h : PySem.W.fnIn K (He.ma K C m) = true) : ∀ f, Meth K C m f → PySem.W.fnIn K f = true := fun f hm => by
  rw [meth_adr hm]; exact h
/-! ## the law's end -/
theorem gh0_mr {K : PySem.W.Frag} {cls : List String} {H : Hp} : MR ⟨K, cls⟩ ⟨[], [], []⟩ [] H := ⟨rfl, fun n cl a e => by simp at e, List.nodup_nil, fun a z => by simp [Gh.hot, Gh.all] at z⟩
theorem endA {P : Program} {w : World} {K : PySem.W.Frag} {mg mb : Str → Option Value} {cls : List String} {k : Nat} {fa a : Addr} {fd : FuncData} {x : Str} {F : AF} {s₁ : Shared} {vs : List Value} {ns : List Int} (H : Hp)
    (KX : K.In s₁.heap) (hns : s₁.heap.Ns mainGlobals mg) (hb : s₁.heap.Ns builtinsNs mb) (hbb : ∀ x : Str, x ≠ "__name__" → mb x = bootBuiltins x) (hlim : s₁.heap.NoLimit) (hg : s₁.gens = #[])
    (ha : s₁.heap.get? a = some { cls := .type "list", data := .seq vs.toArray }) (hr : Room k callerA) (Fh : ∀ base : Heap, Fa true false P w K mg base cls k fa fd [x] F) (bd : ∀ (s : Shared) (u : Value), BindsTo s fd ⟨[u], []⟩ [(x, u)])
    (hS : (Rd H a (.lst (ns.map V.int))) ∨ WrL K a (ns.map V.int)) (hF : F [.scr ns] [] (fun t _ => t = .bl true) fun _ _ => False) (hO : Only H) (hok : HOk P w H s₁.heap) (hA : ∀ b, H b ≠ none → b = a) (hK : H a ≠ none → K.lookup a = none) :
    codeAny (model P w) callerA (.call (.ref fa) ⟨[.ref a], []⟩) (fun r s' => r = .ok (.ret (.bool true)) ∧ OldK s₁.heap s'.heap ∧ s'.os = s₁.os ∧ AllBare s'.gens) s₁ := by
  have untr : ∀ {b : Addr}, b ≠ a → H b = none := fun {b} n => Classical.byContradiction fun z => n (hA b z)
  have dk : ∀ {b : Addr} {o : Obj} {es : Array DictEntry} {ep : Nat}, s₁.heap.get? b = some o → o.data = .dict es ep → (hidT s₁.heap H).get? b = some o := fun {b o es ep} e d => by
    refine hidT_get e (untr fun z => ?_)
    rw [z, ha] at e
    cases e
    cases (show Data.seq vs.toArray _ = Data.dict es ep from d)
  have nk : ∀ {b : Addr} {m : Str → Option Value}, s₁.heap.Ns b m → (hidT s₁.heap H).Ns b m := fun {b m} ⟨o, es, ep, e, d, r⟩ => ⟨o, es, ep, dk e d, d, r⟩
  have kb : K.In (hidT s₁.heap H) := fun b o e => hidT_get (KX b o e) (Classical.byContradiction fun z => by
    have q := hA b z
    rw [q] at e z
    rw [hK z] at e
    cases e)
  have mo : Mod K mg (hidT s₁.heap H) := ⟨kb, nk hns, ⟨mb, nk hb, hbb⟩, let ⟨mc, h1, h2⟩ := hlim; ⟨mc, nk h1, h2⟩⟩
  have e0 : Env0 P w K mg (hidT s₁.heap H) callerA [] s₁ H := ⟨rfl, mo, fun b o e => of_hidT e, Nat.le_of_eq (hidT_size _ _), trivial, fun b z => (List.not_mem_nil (show b ∈ ([] : List Addr) from z)).elim, hok, .of_eq hg⟩
  have sp : spA ⟨K, cls⟩ 1 F [.ref a] H (fun v _ => v = .bl true) noE := ⟨rfl, ⟨[], [], []⟩, [.scr ns], [], _, _, gh0_mr, rfl, VRs.one (vr_scr.mpr ⟨a, rfl, hS.imp (fun z => ⟨fun y => by simp [Gh.hot, Gh.all] at y, z⟩) id⟩), hF, fun t m' G' v H' e _ _ vr => by subst e; exact vr_bl.mp vr, fun x m' G' H' cl d z _ _ _ => z⟩
  refine codeAny_mono ((Fh _).run callerA [] s₁ H ⟨[.ref a], []⟩ [.ref a] [.ref a] _ noE (fun _ => rfl) hr e0 (bd s₁ (.ref a)) (.cons rfl .nil) sp) fun r s' h => ?_
  cases r with
  | error e => exact False.elim h
  | ok fl =>
    cases fl with
    | ret u =>
      obtain ⟨v, H', os, bare, un, hok', r', q⟩ := h
      cases (show v = .bl true from q)
      cases (show u = Value.bool true from r')
      refine ⟨rfl, OldK.of_keep fun b o e => ?_, os, bare⟩
      rcases hO b with z | ⟨ob, xs, z⟩
      · exact un.keep b o e z (fun m => List.not_mem_nil (show b ∈ ([] : List Addr) from m)) (fun m => List.not_mem_nil m)
      · obtain ⟨e1, _⟩ := hok b _ z
        obtain ⟨e2, _⟩ := hok' b _ (un.frzs b ob _ z)
        rw [e] at e1
        cases e1
        exact e2
    | _ => exact False.elim h
/-- what the law's def must promise; the script's bits are told -/
theorem walkA {l : PySem.W.OpenLaw} {n k : Nat} {q : Program} {loose : List Str} {XP : (Str → Option Value) → Heap → Prop} {YP : World → Heap → Prop} {d : DefRec} {x : Str} {F : AF} {cls : List String}
    (hn : l.most = some n) (hn2 : n ≤ sizeLine) (hdf : d.params.defaults = []) (hr : Room k callerA) (hF : ∀ ns : List Int, ns.length ≤ n → (∀ z ∈ ns, Builtin.Int.intBits z ≤ 1048576) → F [.scr ns] [] (fun t _ => t = .bl true) fun _ _ => False)
    (Fh : ∀ (w : World) (mg : Str → Option Value) (fa : Addr) (h : Heap), YP w h → h.Ns mainGlobals mg → mg d.name = some (.ref fa) →
      ∃ (K : PySem.W.Frag) (fd : FuncData), K.In h ∧ (∀ (s : Shared) (u : Value), BindsTo s fd ⟨[u], []⟩ [(x, u)]) ∧ ∀ base : Heap, Fa true false l.prog w K mg base cls k fa fd [x] F) :
    PySem.W.WalkO q loose XP YP l.row.toRowW d [] (fun f vs => PySem.call f vs) := by
  refine Att.attach_callB hn hdf fun w s₀ s₁ mg mb fa o pm cd doc a vs ns G Y ho hd hcd hmg hobj hints hlen hbits hg => ?_
  obtain ⟨K, fd, KX, bd, hFa⟩ := Fh w mg fa _ Y G.T.g hmg
  have rv := vals_ints hints
  have lv := hints.length
  have lz : ns.length ≤ sizeLine := Nat.le_trans hlen hn2
  cases hk : K.lookup a with
  | some ob =>
    have e := KX a ob hk
    rw [hobj] at e
    cases e
    refine endA (ns := ns) (fun _ => none) KX G.T.g G.T.b G.T.builtins G.T.nolimit hg hobj hr hFa bd (.inr ⟨_, vs.toArray, _, hk, rfl, rfl, rfl, ?_, ?_⟩) (hF ns hlen hbits) (fun _ => .inl rfl) (fun b u z => nomatch z) (fun b z => absurd rfl z) (fun z => absurd rfl z)
    · rw [List.size_toArray, lv]; exact lz
    · simpa using rv
  | none =>
    have at_a : ∀ b, (if b = a then some (HO.frz { cls := .type "list", data := .seq vs.toArray } (.lst (ns.map V.int))) else none) ≠ none → b = a := fun b z => Classical.byContradiction fun c => z (if_neg c)
    have on : Only (fun b => if b = a then some (HO.frz { cls := .type "list", data := .seq vs.toArray } (.lst (ns.map V.int))) else none) := fun b => by
      by_cases c : b = a
      · exact .inr ⟨_, _, if_pos c⟩
      · exact .inl (if_neg c)
    refine endA (ns := ns) _ KX G.T.g G.T.b G.T.builtins G.T.nolimit hg hobj hr hFa bd (.inl (.inr ⟨_, if_pos rfl⟩)) (hF ns hlen hbits) on (fun b u z => ?_) at_a (fun _ => hk)
    by_cases c : b = a
    · cases (if_pos c).symm.trans z
      subst c
      exact ⟨hobj, by rw [List.length_map]; exact lz, vs, _, rv, hobj⟩
    · cases (if_neg c).symm.trans z
end AM
set_option maxHeartbeats 4000000
namespace AM
open PySem PySem.Spec PyProof.Rows L2 Eb
section
variable {c : Cl} {X : Cx} {e o : Expr} {a b : AE} {pos p1 p2 p3 : Pos} {Γ : Gm}
/-! ### e[::-1] -/
@[simp] def aRevL (a : AE) : AE := fun z m P F => a z m (fun t m1 => match asL m1 t with | some xs => P (.lst xs.reverse) m1 | none => False) F
theorem vrs_rev {G : Gh} {H : Hp} : ∀ {xs : List T} {us : List V}, VRs Γ G H xs us → VRs Γ G H xs.reverse us.reverse
  | [], us, h => by rw [vrs_nil.mp h]; exact vrs_nil.mpr rfl
  | x :: xs, us, h => by
    obtain ⟨v, r, rfl, h1, h2⟩ := vrs_cons.mp h
    rw [List.reverse_cons, List.reverse_cons]
    exact (vrs_rev h2).app (VRs.one h1)
theorem sf_revL {k : Nat} (he : SB c X e a) : SF c X (.Subscript e (.Slice none none (some (.UnaryOp .USub (.Constant (.int 1) k p1) p2)) p3) pos) (aRevL a) :=
  pe_weak (pe_revL he) fun σ H Q ⟨G, z, m, P, F, mr, sr, h, k⟩ => ⟨G, z, m, _, F, mr, sr, h, ⟨fun x1 m1 G1 v1 H1 p1 s1 r1 b1 => by
    split at p1
    · rename_i xs ex
      obtain ⟨q, us, rfl, e4, e5⟩ := rdL r1 b1 ex
      exact ⟨q, us, rfl, e4, fun p np => (fsh_of k s1 (fun p np => free_of' r1 s1 np) r1).1 _ _ p p1 (vrs_rev e5) np⟩
    · exact p1.elim, k.ex⟩⟩
theorem se_revL {k : Nat} (he : SB c X e a) : SE c X (.Subscript e (.Slice none none (some (.UnaryOp .USub (.Constant (.int 1) k p1) p2)) p3) pos) (aRevL a) := SF.se (sf_revL he)
/-! ### list(range(n)) -/
@[simp] def aLR (a : AE) : AE := fun z m P F => a z m (fun t m1 => match t with | .int n => 0 ≤ n ∧ n ≤ 16777216 ∧ P (.lst ((List.range n.toNat).map fun (i : Nat) => T.int i)) m1 | _ => False) F
theorem sf_LR (mk : ∀ {t : TE}, PE X o t → PE X e (tLstRg (tRg1 t))) (he : SB c X o a) : SF c X e (aLR a) :=
  pe_weak (mk he) fun σ H Q ⟨G, z, m, P, F, mr, sr, h, k⟩ => ⟨G, z, m, _, F, mr, sr, h, ⟨fun x1 m1 G1 v1 H1 p1 s1 r1 b1 => by
    split at p1
    · rename_i n
      cases vb_int b1
      refine ⟨n, rfl, RgOk.of_le (Int.le_refl _) p1.2.1 (by decide) p1.1, fun p np => (fsh_of k s1 (fun p np => free_of' r1 s1 np) r1).1 _ _ p p1.2.2 ?_ np⟩
      unfold rgV
      have e1 : (List.range n.toNat).map (fun (i : Nat) => T.int i) = ((List.range n.toNat).map fun (i : Nat) => (i : Int)).map T.int := by rw [List.map_map]; rfl
      rw [e1]
      refine VRs.ints.mpr ?_
      rw [List.map_map, Int.sub_zero]
      exact List.map_congr_left fun i _ => by simp
    · exact p1.elim, k.ex⟩⟩
/-! ### int(text) -/
def intS (l : List Nat) : Option Int := PySem.intText? (tx l)
@[simp] def intTA : AL := fun xs m P => match xs with | [.int i] => P (.int i) m | [.bl b] => P (.int (if b then 1 else 0)) m | [.str l] => l.length ≤ 640 ∧ (match intS l with | some n => P (.int n) m | none => False) | _ => False
theorem call_intTA : CallR X (.type "int") (fun xs H Q => ((∃ i, xs = [.int i] ∧ Q (.int i) H) ∨ ∃ k, xs = [.bl k] ∧ Q (.int (if k then 1 else 0)) H) ∨ ∃ a n, xs = [.str a] ∧ PySem.intText? a = some n ∧ a.length ≤ 640 ∧ Q (.int n) H) := call_or call_int1 call_int_str
theorem sim_intT : SimL Γ (fun xs H Q => ((∃ i, xs = [.int i] ∧ Q (.int i) H) ∨ ∃ k, xs = [.bl k] ∧ Q (.int (if k then 1 else 0)) H) ∨ ∃ a n, xs = [.str a] ∧ PySem.intText? a = some n ∧ a.length ≤ 640 ∧ Q (.int n) H) intTA := by
  intro G m H x v P Q r hx h k
  unfold intTA at h
  split at h
  · obtain ⟨v, rfl, h1⟩ := vbs1 hx; cases vb_int h1
    exact .inl (.inl ⟨_, rfl, k _ m G _ H h Stp.refl r (vr_int.mpr rfl)⟩)
  · obtain ⟨v, rfl, h1⟩ := vbs1 hx; cases vb_bl h1
    exact .inl (.inr ⟨_, rfl, k _ m G _ H h Stp.refl r (vr_int.mpr rfl)⟩)
  · obtain ⟨v, rfl, h1⟩ := vbs1 hx
    obtain ⟨rfl, ok⟩ := vb_str h1
    obtain ⟨hl, h⟩ := h
    split at h
    · rename_i n en
      exact .inr ⟨_, n, rfl, en, by rw [tx_len]; exact hl, k _ m G _ H h Stp.refl r (vr_int.mpr rfl)⟩
    · exact h.elim
  · exact h.elim
/-! ### o[k].replace(y, str(e)) -/
abbrev RpL := PySem.StrLaws.replL
theorem rpl_len {y z : List Nat} (hy : 1 ≤ y.length) (l : List Nat) : (RpL y z l).length ≤ l.length + (l.length + 1) * z.length := by
  have h := @PySem.StrLaws.replace_list (tx l) (tx y) (tx z) (by rw [tx_len]; exact hy)
  have h2 := TK.replace_len (tx l) (tx y) (tx z)
  have e : (Txt.replace (tx l) (tx y) (tx z)).length = (RpL y z l).length := by
    show (Txt.replace (tx l) (tx y) (tx z)).cps.size = _
    rw [← Array.length_toList, h]
    rfl
  rw [e, tx_len, tx_len] at h2
  exact h2
theorem rpl_mem {y z : List Nat} : ∀ (l : List Nat) (s : Nat), ∀ c ∈ PySem.StrLaws.replS y z s l, c ∈ l ∨ c ∈ z := by
  intro l
  induction l with
  | nil => intro s c hc; rw [PySem.StrLaws.replS] at hc; cases hc
  | cons x l ih =>
    intro s c hc
    cases s with
    | zero =>
      rw [PySem.StrLaws.replS] at hc
      split at hc
      · rcases List.mem_append.mp hc with h | h
        · exact .inr h
        · exact (ih _ c h).imp (List.mem_cons_of_mem _) id
      · rcases List.mem_cons.mp hc with h | h
        · exact .inl (h ▸ List.mem_cons_self)
        · exact (ih _ c h).imp (List.mem_cons_of_mem _) id
    | succ s =>
      rw [PySem.StrLaws.replS] at hc
      exact (ih _ c hc).imp (List.mem_cons_of_mem _) id
theorem rpl_sok {y z l : List Nat} (hy : 1 ≤ y.length) (hl : SOk l) (hz : SOk z) (hb : l.length + (l.length + 1) * z.length ≤ 16777216) : SOk (RpL y z l) :=
  ⟨Nat.le_trans (rpl_len hy l) (Nat.le_trans hb (by decide)), fun c hc => (rpl_mem l 0 c hc).elim (hl.ok c) (hz.ok c)⟩
@[simp] def aRepl (a : AE) (n : Int) (y : List Nat) (b : AE) : AE := fun z m P F => a z m (fun x m1 => ixA x (.int n) m1 fun t m2 => match t with
  | .str l => b z m2 (fun w m3 => match w with
    | .int i => i.natAbs.log2 < 1920 ∧ (y ≠ strI i ∧ l.length + (l.length + 1) * (strI i).length ≤ 16777216) ∧ P (.str (RpL y (strI i) l)) m3
    | _ => False) F
  | _ => False) F
theorem se_repl_cInt {y : String} {n : Int} {ci cj : Nat} {q0 q1 q2 q3 q4 apos : Pos} (hu : X.A.units + 1 < cLine) (hb : X.mg "str" = none) (hg : Gl X "str") (ho : SB c X o a) (he : SB c X e b) (hy : 1 ≤ (q y).length)
    (hst : starEach [.Constant (.str (PySem.Str.ofString y)) cj q1, .Call (.Name "str" q2) [e] [] q3] X.env = [(false, eval (.Constant (.str (PySem.Str.ofString y)) cj q1) X.env), (false, eval (.Call (.Name "str" q2) [e] [] q3) X.env)] := by rfl)
    (na : starEach [e] X.env = (false, eval e X.env) :: starEach [] X.env := by rfl)
    (hbase : attributeBase (.Subscript o (.Constant (.int n) ci q0) q4) "replace" X.env (eval (.Subscript o (.Constant (.int n) ci q0) q4) X.env) = eval (.Subscript o (.Constant (.int n) ci q0) q4) X.env := by rfl) (hline : (apos.endLine == pos.line) = true := by rfl) :
    SE c X (.Call (.Attribute (.Subscript o (.Constant (.int n) ci q0) q4) "replace" apos) [.Constant (.str (PySem.Str.ofString y)) cj q1, .Call (.Name "str" q2) [e] [] q3] [] pos) (aRepl a n (q y) b) := by
  refine ⟨fun pins s σ H Q I hq => ?_⟩
  obtain ⟨G, z, m, P, F, mr, sr, h, k⟩ := hq
  refine PySem.Call_method2 hbase hst hline (Subscript_ (thn (ho.run pins s σ H (fun v H1 => ((rIxS v (.int n) H1 (fun w H2 => ∃ l, w = .str (tx l) ∧ rOf (VB (go X c.cls)) (go X c.cls) c.W b σ H2 fun u H3 => ∃ i : Int, u = .int i ∧ i.natAbs.log2 < 1920 ∧ (q y ≠ strI i ∧ l.length + (l.length + 1) * (strI i).length ≤ 16777216) ∧ Q (.str (tx (RpL (q y) (strI i) l))) H3) ∨ rIxD v (.int n) H1 (fun w H2 => ∃ l, w = .str (tx l) ∧ rOf (VB (go X c.cls)) (go X c.cls) c.W b σ H2 fun u H3 => ∃ i : Int, u = .int i ∧ i.natAbs.log2 < 1920 ∧ (q y ≠ strI i ∧ l.length + (l.length + 1) * (strI i).length ≤ 16777216) ∧ Q (.str (tx (RpL (q y) (strI i) l))) H3)) ∨ (rIxL X.K v (.int n) H1 (fun w H2 => ∃ l, w = .str (tx l) ∧ rOf (VB (go X c.cls)) (go X c.cls) c.W b σ H2 fun u H3 => ∃ i : Int, u = .int i ∧ i.natAbs.log2 < 1920 ∧ (q y ≠ strI i ∧ l.length + (l.length + 1) * (strI i).length ≤ 16777216) ∧ Q (.str (tx (RpL (q y) (strI i) l))) H3) ∨ rIxT X.K v (.int n) H1 (fun w H2 => ∃ l, w = .str (tx l) ∧ rOf (VB (go X c.cls)) (go X c.cls) c.W b σ H2 fun u H3 => ∃ i : Int, u = .int i ∧ i.natAbs.log2 < 1920 ∧ (q y ≠ strI i ∧ l.length + (l.length + 1) * (strI i).length ≤ 16777216) ∧ Q (.str (tx (RpL (q y) (strI i) l))) H3)))) I ?_) fun ov s1 ⟨x, H1, I1, rx, q1⟩ => ?_))
  · refine ⟨G, z, m, _, F, mr, sr, h, k.mv Stp.refl fun x1 m1 G1 v1 H1 p1 s1 r1 b1 => ?_⟩
    refine sim_ix (Γ := go X c.cls) G1 m1 H1 x1 (.int n) v1 (.int n) _ _ r1 b1 (.inl (vr_int.mpr rfl)) p1 fun t m2 G2 w H2 p2 s2 r2 v2 => ?_
    split at p2
    · rename_i l
      obtain ⟨rfl, ok⟩ := vr_str.mp v2
      refine ⟨l, rfl, G2, z, m2, _, F, r2, sr.step mr.nd (s1.trans s2), p2, k.mv (s1.trans s2) fun w3 m3 G3 v3 H3 p3 s3 r3 b3 => ?_⟩
      split at p3
      · rename_i i
        cases vb_int b3
        refine ⟨i, rfl, p3.1, p3.2.1, k.ok _ m3 G3 _ H3 p3.2.2 ((s1.trans s2).trans s3) r3 (vr_str.mpr ⟨rfl, rpl_sok hy ok (strI_sok p3.1) p3.2.1.2⟩)⟩
      · exact p3.elim
    · exact p2.elim
  · refine wpAny_Constant_int ?_
    have I2 := I1.tok (s1.toks + 1)
    have key := ix_A hu o (.Constant (.int n) ci q0) pins { s1 with toks := s1.toks + 1 } σ H1 x (.int n) ov (.int n s1.toks) _ I2 rx ⟨_, rfl⟩ q1 rfl
    refine wpAny_mono (PySem.wpAny_toks key) (fun v s3 q => ?_) fun _ _ z => z.2
    obtain ⟨hk, w, H2, I3, rw', l, ew, qq⟩ := q
    have hk : s1.toks + 1 ≤ s3.toks := hk
    subst ew
    obtain ⟨tx', rfl⟩ := rw'
    refine ⟨"str", _, PySem.F.plainAttrs_str, PySem.F.slot_str_replace, PySem.F.type_str_replace, typeIs_str _ _ _, (fun _ e => nomatch e), Calls.callWith_builtin rfl (Calls.evalArgs_plain (Calls.spliced_cons ?_))⟩
    refine Calls.Constant_str (Calls.spliced_cons ?_)
    have I4 := I3.tok (s3.toks + 1)
    refine Call_ (ld_blt (u := .type "str") I4 hg hb (by decide +kernel) (PyProof.Rows.callWith_type1 (args_cons (wpAny_mono (PySem.wpAny_toks (he.run pins _ σ H2 _ I4 qq)) (fun u s5 hq => args_nil ?_) fun _ _ z => z.2) na) na))
    obtain ⟨hk5, u', H3, I5, ru, i, ei, hi, ⟨hne, hlen⟩, q'⟩ := hq
    subst ei
    obtain ⟨ti, rfl⟩ := ru
    refine PySem.P.str_of_int hi (Calls.spliced_nil ?_)
    have hk5 : s3.toks + 1 ≤ s5.toks := hk5
    refine PySem.SC.replace (by show s3.toks ≠ 0; omega) (by show s5.toks ≠ 0; omega) (by show s3.toks ≠ s5.toks; omega) ?_ ?_ fun t' k' => ⟨.str (tx (RpL (AM.q y) (strI i) l)), H3, I5.tok k', ⟨t', ?_⟩, q'⟩
    · refine beq_eq_false_iff_ne.mpr fun z => hne (tx_inj ?_)
      rw [tx_q, z]; unfold strI; rw [tx_q]
    · rw [tx_len]
      have : (PySem.Str.ofString (toString i)).length = (strI i).length := by rw [← tx_q, tx_len]; rfl
      rw [this]; exact hlen
    · have h := @PySem.StrLaws.replace_list (tx l) (PySem.Str.ofString y) (PySem.Str.ofString (toString i)) (by rw [← tx_q, tx_len]; exact hy)
      have e : Txt.replace (tx l) (PySem.Str.ofString y) (PySem.Str.ofString (toString i)) = tx (RpL (q y) (strI i) l) := by
        have e2 : (Txt.replace (tx l) (PySem.Str.ofString y) (PySem.Str.ofString (toString i))).cps = (tx (RpL (q y) (strI i) l)).cps := by
          apply Array.toList_inj.mp
          rw [h, ← tx_q, ← tx_q]
          rfl
        exact congrArg (fun a => (⟨a⟩ : Str)) e2
      exact congrArg (fun a => Value.str a t') e
end
end AM
set_option maxHeartbeats 4000000
namespace AM
open PySem PySem.Spec PyProof.Rows L2 Eb
/-! ## calls with keywords -/
def SK (c : Cl) (X : Cx) (kws : List Keyword) (a : AA) : Prop := PK X kws (rOf (fun G H ts us => VRs (go X c.cls) G H ts us ∧ us.length = kws.length) (go X c.cls) c.W a)
section
variable {gd md : Bool} {c : Cl} {X : Cx} {k j n : Nat} {C : String} {F : AF} {x m : Str} {p pos apos kpos : Pos} {e o : Expr} {es : List Expr} {kws : List Keyword} {a b : AE} {l lk : AA} {nm : Option Str}
theorem pk_weak {kws : List Keyword} {t t' : TA} (h : PK X kws t) (w : ∀ σ H Q, t' σ H Q → t σ H Q) : PK X kws t' := ⟨fun pos pins s σ H Q I hq => h.run pos pins s σ H Q I (w σ H Q hq)⟩
theorem sk_nil : SK c X [] aNil := pk_weak pk_nil fun σ H Q ⟨G, z, m, P, F, mr, sr, h, k⟩ => k.ok [] m G [] H h Stp.refl mr ⟨vrs_nil.mpr rfl, rfl⟩
theorem sk_cons (ha : SE c X e a) (hr : SK c X kws l) : SK c X (⟨nm, e, kpos⟩ :: kws) (aCons a l) :=
  pk_weak (pk_cons ha hr) fun σ H Q ⟨G, z, m, P, F, mr, sr, h, k⟩ => ⟨G, z, m, _, F, mr, sr, h, k.mv Stp.refl fun x1 m1 G1 v1 H1 p1 s1 r1 b1 =>
    ⟨G1, z, m1, _, F, r1, sr.step mr.nd s1, p1, k.mv s1 fun x2 m2 G2 v2 H2 p2 s2 r2 b2 => k.ok _ m2 G2 _ H2 p2 (s1.trans s2) r2 ⟨vrs_cons.mpr ⟨_, _, rfl, s2.vr b1, b2.1⟩, by rw [List.length_cons, List.length_cons, b2.2]⟩⟩⟩
/-- a def called by keywords: ix the place of each parameter's value among the written ones -/
def pickI {α : Type} (ix : List Nat) (vs : List α) : List α := ix.filterMap fun i => vs[i]?
structure CalK (gd md : Bool) (P : Program) (w : World) (K : PySem.W.Frag) (mg : Str → Option Value) (base : Heap) (cls : List String) (k : Nat) (x : Str) (ks : List Str) (n : Nat) (ix : List Nat) (F : AF) : Prop where
  ex : ∃ (f : Addr) (fd : FuncData) (ps : List Str), Fa gd md P w K mg base cls k f fd ps F ∧ ps.length = ix.length ∧ (∀ i ∈ ix, i < n + ks.length) ∧ mg x = some (.ref f) ∧ PySem.W.keepIn K (.ref f) = true ∧
    ∀ (s : Shared) (us ws : List Value), K.In s.heap → us.length = n → ws.length = ks.length → BindsTo s fd ⟨us, ks.zip ws⟩ (ps.zip (pickI ix (us ++ ws)))
theorem pickI_len {α : Type} {ix : List Nat} {vs : List α} (h : ∀ i ∈ ix, i < vs.length) : (pickI ix vs).length = ix.length := by
  induction ix with
  | nil => rfl
  | cons i ix ih =>
    unfold pickI
    rw [List.filterMap_cons, List.getElem?_eq_getElem (h i List.mem_cons_self)]
    show (pickI ix vs).length + 1 = ix.length + 1
    rw [ih fun i hi => h i (List.mem_cons_of_mem _ hi)]
theorem pickI_vals {ix : List Nat} {vs : List V} {us : List Value} (h : Vals vs us) : Vals (pickI ix vs) (pickI ix us) := by
  induction ix with
  | nil => exact .nil
  | cons i ix ih =>
    unfold pickI
    rw [List.filterMap_cons, List.filterMap_cons]
    have hl := h.length
    by_cases hi : i < us.length
    · have e1 : vs[i]? = some (vs[i]'(by omega)) := List.getElem?_eq_getElem _
      obtain ⟨u, e2, r⟩ := h.get e1
      rw [e1, e2]
      exact .cons r ih
    · rw [List.getElem?_eq_none (by omega), List.getElem?_eq_none (by omega)]
      exact ih
theorem pickI_vrs {Γ : Gm} {G : Gh} {H : Hp} {ix : List Nat} {ts : List T} {vs : List V} (h : VRs Γ G H ts vs) : VRs Γ G H (pickI ix ts) (pickI ix vs) := by
  induction ix with
  | nil => exact vrs_nil.mpr rfl
  | cons i ix ih =>
    unfold pickI
    rw [List.filterMap_cons, List.filterMap_cons]
    have hl := h.length
    by_cases hi : i < ts.length
    · have e1 : ts[i]? = some (ts[i]'hi) := List.getElem?_eq_getElem _
      obtain ⟨u, e2, r⟩ := h.get e1
      rw [e1, e2]
      exact vrs_cons.mpr ⟨_, _, rfl, r, ih⟩
    · rw [List.getElem?_eq_none (by omega), List.getElem?_eq_none (by omega)]
      exact ih
@[simp] def aCallK (F : AF) (ix : List Nat) (l lk : AA) : AE := fun z m P Fx => l z m (fun ts m1 => lk z m1 (fun us m2 => F (pickI ix (ts ++ us)) m2 P Fx) Fx) Fx
theorem runK {ks : List Str} {ix : List Nat} {n : Nat} {f : Addr} {fd : FuncData} {ps : List Str} {pins : List (Addr × Obj)} {σ : L2.St} {H : Hp} {s : Shared} {Q : VK} {us ws : List Value} {vs zs : List V} (h : Fa gd md X.prog X.w X.K X.mg X.base c.cls k f fd ps F) (hg : gd = true → X.A.guards = some []) (hr : Room k X.A) (tk : Pas md X c.W)
    (hb : ∀ (s : Shared) (us ws : List Value), X.K.In s.heap → us.length = n → ws.length = ks.length → BindsTo s fd ⟨us, ks.zip ws⟩ (ps.zip (pickI ix (us ++ ws)))) (h1 : us.length = n) (h2 : ws.length = ks.length) (hl : (pickI ix (us ++ ws)).length = ps.length)
    (I : Inv X pins σ H s) (r : Vals vs us) (rz : Vals zs ws) (hs : spA (go X c.cls) ps.length F (pickI ix (vs ++ zs)) H Q (fun cl d H => c.W cl d σ H)) : wpAny (model X.prog X.w) X.A (call (.ref f) us (ks.zip ws)) (EP X pins σ Q) X.xe s := by
  have r2 : Vals (pickI ix (vs ++ zs)) (pickI ix (us ++ ws)) := pickI_vals (r.append rz)
  cases md with
  | true =>
    have tk : Takes X c.W := tk
    refine wpAny_call (codeAny_mono (h.run X.A X.stack s H ⟨us, ks.zip ws⟩ _ _ Q (WE c.W σ) hg hr I.env0 (hb s us ws I.kIn h1 h2) r2 hs) fun r s' hq => ?_)
    cases r with
    | error e => exact passAt tk σ pins H s e s' I hq
    | ok fl => cases fl <;> first | exact I.after hq | exact False.elim hq
  | false =>
    have tk : c.W = noW := tk
    rw [tk] at hs
    refine wpAny_call (codeAny_mono (h.run X.A X.stack s H ⟨us, ks.zip ws⟩ _ _ Q noE hg hr I.env0 (hb s us ws I.kIn h1 h2) r2 hs) fun r s' hq => ?_)
    cases r with
    | error e => exact False.elim hq
    | ok fl => cases fl <;> first | exact I.after hq | exact False.elim hq
theorem se_callK0 {ks : List Str} {ix : List Nat} (h : CalK gd md X.prog X.w X.K X.mg X.base c.cls k x ks 0 ix F) (hg : gd = true → X.A.guards = some []) (hr : Room j X.A) (hk : k ≤ j) (tk : Pas md X c.W) (hgl : Gl X x) (hkw : SK c X kws lk) (hlen : kws.length = ks.length := by rfl)
    (hall : (backToKw pos (keywordEach kws X.env)).all (·.1.isSome) = true := by rfl) (hks : (backToKw pos (keywordEach kws X.env)).filterMap (·.1) = ks := by rfl)
    (hdb : (x == ("__debug__" : Str)) = false := by decide) (hpl : ((backTo pos (starEach [] X.env)).any (·.1) || (backToKw pos (keywordEach kws X.env)).any (·.1.isNone)) = false := by rfl) :
    SE c X (.Call (.Name x p) [] kws pos) (aCallK F ix aNil lk) := by
  obtain ⟨f, fd, ps, h1, hl, hix, hm, kp, b⟩ := h.ex
  refine ⟨fun pins s σ H Q I hq => ?_⟩
  refine wpAny_Call_Name_kw (ld_glob I hgl hm ?_ hdb)
  refine PySem.W.callWith_KW0 (h₀ := X.base) I.ok.mod.kin kp hall (thn (hkw.run pos pins s σ H (fun zs H2 => zs.length = ks.length ∧ spA (go X c.cls) ps.length F (pickI ix ([] ++ zs)) H2 Q (fun cl d H => c.W cl d σ H)) I ?_) fun ws s2 ⟨zs, H2, I2, rz, ez, q2⟩ => ⟨I2.kIn, ?_⟩) hpl
  · obtain ⟨G, z, m, P, Fx, mr, sr, hl', kk⟩ := hq
    refine ⟨G, z, m, _, Fx, mr, sr, hl', kk.mv Stp.refl fun ts m1 G1 vs H1 p1 s1 r1 v1 => ⟨by rw [v1.2, hlen], ?_⟩⟩
    refine call_sp (ts := pickI ix ([] ++ ts)) ?_ kk s1 r1 (pickI_vrs v1.1) p1
    rw [hl]
    refine pickI_len fun i hi => ?_
    have := hix i hi
    rw [List.nil_append, v1.2, hlen]; omega
  · rw [hks]
    have ew : ws.length = ks.length := by rw [← rz.length, ez]
    exact runK h1 hg (hr.mono hk) tk b rfl ew (by rw [hl]; exact pickI_len fun i hi => by have := hix i hi; simp [ew]; omega) I2 (.nil : Vals [] []) rz q2
theorem se_callK {ks : List Str} {ix : List Nat} (h : CalK gd md X.prog X.w X.K X.mg X.base c.cls k x ks n ix F) (hg : gd = true → X.A.guards = some []) (hr : Room j X.A) (hk : k ≤ j) (tk : Pas md X c.W) (hgl : Gl X x) (ha : SA c X (e :: es) l) (hkw : SK c X kws lk) (hn : (e :: es).length = n := by rfl) (hlen : kws.length = ks.length := by rfl)
    (hall : (backToKw pos (keywordEach kws X.env)).all (·.1.isSome) = true := by rfl) (hks : (backToKw pos (keywordEach kws X.env)).filterMap (·.1) = ks := by rfl)
    (hdb : (x == ("__debug__" : Str)) = false := by decide) (he : starEach (e :: es) X.env = (false, eval e X.env) :: starEach es X.env := by rfl)
    (hpl : ((backTo pos (starEach (e :: es) X.env)).any (·.1) || (backToKw pos (keywordEach kws X.env)).any (·.1.isNone)) = false := by rfl) :
    SE c X (.Call (.Name x p) (e :: es) kws pos) (aCallK F ix l lk) := by
  obtain ⟨f, fd, ps, h1, hl, hix, hm, kp, b⟩ := h.ex
  refine ⟨fun pins s σ H Q I hq => ?_⟩
  refine wpAny_Call_Name_kw (ld_glob I hgl hm ?_ hdb)
  refine PySem.W.callWith_KW (h₀ := X.base) I.ok.mod.kin kp hall (thn (ha.run pos pins s σ H (fun vs H1 => vs.length = n ∧ rOf (fun G H ts us => VRs (go X c.cls) G H ts us ∧ us.length = kws.length) (go X c.cls) c.W lk σ H1 fun zs H2 => zs.length = ks.length ∧ spA (go X c.cls) ps.length F (pickI ix (vs ++ zs)) H2 Q (fun cl d H => c.W cl d σ H)) I ?_) fun us s1 ⟨vs, H1, I1, r, ev, q⟩ => ?_) hpl he
  · obtain ⟨G, z, m, P, Fx, mr, sr, hl', kk⟩ := hq
    refine ⟨G, z, m, _, Fx, mr, sr, hl', kk.mv Stp.refl fun ts m1 G1 vs H1 p1 s1 r1 v1 => ⟨by rw [v1.2, hn], G1, z, m1, _, Fx, r1, sr.step mr.nd s1, p1, kk.mv s1 fun us m2 G2 ws H2 p2 s2 r2 v2 => ⟨by rw [v2.2, hlen], ?_⟩⟩⟩
    refine call_sp (ts := pickI ix (ts ++ us)) ?_ kk (s1.trans s2) r2 (pickI_vrs ((v1.1.go s2.go).app v2.1)) p2
    rw [hl]
    refine pickI_len fun i hi => ?_
    have := hix i hi
    rw [List.length_append, v1.2, v2.2, hn, hlen]; exact this
  · refine thn (hkw.run pos pins s1 σ H1 _ I1 q) fun ws s2 ⟨zs, H2, I2, rz, ez, q2⟩ => ⟨I2.kIn, ?_⟩
    rw [hks]
    have ew : ws.length = ks.length := by rw [← rz.length, ez]
    have eu : us.length = n := by rw [← r.length, ev]
    exact runK h1 hg (hr.mono hk) tk b eu ew (by rw [hl]; exact pickI_len fun i hi => by have := hix i hi; simp [eu, ew]; omega) I2 r rz q2
theorem calK {P : Program} {w : World} {K : PySem.W.Frag} {mg : Str → Option Value} {base : Heap} {cls : List String} {f : Addr} {ps N : List Str} {params : Arguments} {body : List Stmt} {scope : Scope} {s : AS} (ks : List Str) (n : Nat) (ix : List Nat) (h : ∃ fd, FunD K x x params body scope [] [] f fd) (g : mg x = some (.ref f)) (S : FnScope N ps scope)
    (bd : ∀ (kV doc pm : Value) (an : Option Addr) (cdv ct : Value) (us ws : List Value), us.length = n → ws.length = ks.length → bindArgs (PySem.W.fnOf x x params body scope .none kV doc pm an cdv ct) ⟨us, ks.zip ws⟩ = pure (ps.zip (pickI ix (us ++ ws)))) (hn : ps.length = ix.length) (hix : ∀ i ∈ ix, i < n + ks.length)
    (hb : By0 gd P w K mg base cls k f N x body scope s) : CalK gd false P w K mg base cls (k + 1) x ks n ix (fB N.length s) := by
  obtain ⟨fd, F⟩ := h
  refine ⟨f, fd, ps, fa0 F S hb, hn, hix, g, F.kp, fun s us ws _ h1 h2 => ?_⟩
  obtain ⟨oc, od, dV, kV, doc, pm, an, cdv, ct, osl, rfl, lk, hcd, hD, hK⟩ := F.ex
  rcases hD with ⟨_, rfl⟩ | ⟨e, _⟩
  · exact .of_eq (bd kV doc pm an cdv ct us ws h1 h2)
  · exact absurd rfl e
end
end AM
set_option maxHeartbeats 4000000
namespace AM
open PySem PySem.Spec PyProof.Rows L2 Eb
/-! ## the law's numbers -/
section
variable {Γ : Gm} {G : Gh} {H : Hp} {m : Mem} {n : Nat}
theorem MR.cellAt (r : MR Γ G m H) {cl : Cell} (e : m[n]? = some cl) : ∃ a, G.rho[n]? = some a ∧ CR Γ G H a cl := by
  have hn : n < G.rho.length := by rw [← r.len]; exact (List.getElem?_eq_some_iff.mp e).1
  exact ⟨_, List.getElem?_eq_getElem hn, r.cell n cl _ e (List.getElem?_eq_getElem hn)⟩
theorem MR.chg (r : MR Γ G m H) {cl : Cell} (h : ∀ a, G.rho[n]? = some a → CR Γ G H a cl) : MR Γ G (m.set n cl) H := by
  refine ⟨by rw [List.length_set]; exact r.len, fun k c a e1 e2 => ?_, r.nd, r.live⟩
  by_cases hk : n = k
  · subst hk
    have hl : n < m.length := by
      have := (List.getElem?_eq_some_iff.mp e1).1
      simpa using this
    rw [List.getElem?_set_self hl] at e1
    cases e1
    exact h a e2
  · rw [List.getElem?_set_ne hk] at e1
    exact r.cell k c a e1 e2
theorem pot_lst {a : Addr} {x y : Int} : CR Γ G H a (.lst [.int x, .int y]) ↔ H a = some (.lst [.int x, .int y]) := by
  constructor
  · rintro ⟨us, h1, h2⟩
    obtain ⟨v, r, rfl, a1, a2⟩ := vrs_cons.mp h2
    obtain ⟨v', r', rfl, b1, b2⟩ := vrs_cons.mp a2
    cases vrs_nil.mp b2
    rw [vr_int.mp a1, vr_int.mp b1] at h1
    exact h1
  · intro h
    exact ⟨_, h, vrs_cons.mpr ⟨_, _, rfl, vr_int.mpr rfl, VRs.one (vr_int.mpr rfl)⟩⟩
end
/-- a number from 0 on below k -/
@[simp] def potDraw : AF := fun ts m P _ => match ts with
  | [.obj n, .int k] => 0 < k ∧ k ≤ 1000000 ∧ m[n]? = some .pot ∧ ∀ d : Nat, (d : Int) < k → P (.int d) m
  | _ => False
@[simp] def potMake : AF := fun ts m P _ => match ts with
  | [.scr ns, .int k] => 0 ≤ k ∧ k ≤ 1000000 ∧ P (.obj m.length) (m ++ [.pot])
  | _ => False
section
variable {gd md : Bool} {P : Program} {w : World} {K : PySem.W.Frag} {mg : Str → Option Value} {base : Heap} {cls : List String} {k : Nat} {f : Addr} {fd : FuncData} {ps : List Str} {F : AF}
theorem Fa.potD (h : Fa gd md P w K mg base cls k f fd ps F) (hi : ∀ (n : Nat) (x y k : Int) (m : Mem) (P : PX) (Fx : FX), 0 ≤ x → 0 ≤ y → y < 2147483648 → 0 < k → k ≤ 1000000 → m[n]? = some (.lst [.int x, .int y]) →
    (∀ d x' y', 0 ≤ d → d < k → 0 ≤ x' → 0 ≤ y' → y' < 2147483648 → P (.int d) (m.set n (.lst [.int x', .int y']))) → F [.obj n, .int k] m P Fx) : Fa gd md P w K mg base cls k f fd ps potDraw :=
  ⟨fun A outer s H args us vs Q E hg hr e b r ⟨l, G, ts, m, P, Fx, mr, ow, vr, hf, k1, k2⟩ => by
    refine h.run A outer s H args us vs Q E hg hr e b r ?_
    unfold potDraw at hf
    split at hf
    · rename_i n kk
      obtain ⟨h1, h2, h3, h4⟩ := hf
      obtain ⟨a, ea, x, y, c1, c2, c3, c4⟩ := mr.cellAt h3
      have hl : n < m.length := (List.getElem?_eq_some_iff.mp h3).1
      have mr1 : MR ⟨K, cls⟩ G (m.set n (.lst [.int x, .int y])) H := mr.chg fun a' e' => by
        rw [ea] at e'; cases e'; exact pot_lst.mpr c1
      refine ⟨l, G, _, m.set n (.lst [.int x, .int y]), fun t m' => ∃ (d : Nat) (x' y' : Int), t = .int d ∧ (d : Int) < kk ∧ 0 ≤ x' ∧ 0 ≤ y' ∧ y' < 2147483648 ∧ m' = m.set n (.lst [.int x', .int y']), fun _ _ => False, mr1, ow, vr, hi n x y kk _ _ _ c2 c3 c4 h1 h2 (List.getElem?_set_self hl) fun d x' y' d0 d1 hx hy hy2 => ?_, fun t m' G' v H' p s r vr => ?_, fun x m' G' H' c d p => p.elim⟩
      · exact ⟨d.toNat, x', y', by rw [Int.toNat_of_nonneg d0], by rw [Int.toNat_of_nonneg d0]; exact d1, hx, hy, hy2, by rw [List.set_set]⟩
      · obtain ⟨d, x', y', rfl, hd, hx, hy, hy2, rfl⟩ := p
        refine k1 _ m G' v H' (h4 d hd) s ?_ vr
        have r2 := r.chg (n := n) (cl := .pot) fun a' e' => by
          have c := r.cell n (.lst [.int x', .int y']) a' (List.getElem?_set_self hl) e'
          exact ⟨x', y', pot_lst.mp c, hx, hy, hy2⟩
        rw [List.set_set] at r2
        have e3 : m.set n .pot = m := by
          apply List.ext_getElem?
          intro i
          by_cases hi : n = i
          · subst hi; rw [List.getElem?_set_self hl, h3]
          · rw [List.getElem?_set_ne hi]
        rw [e3] at r2
        exact r2
    · exact hf.elim⟩
theorem Fa.potM (h : Fa gd md P w K mg base cls k f fd ps F) (hi : ∀ (ns : List Int) (k : Int) (m : Mem) (P : PX) (Fx : FX), 0 ≤ k → k ≤ 1000000 →
    (∀ x y, 0 ≤ x → 0 ≤ y → y < 2147483648 → P (.obj m.length) (m ++ [.lst [.int x, .int y]])) → F [.scr ns, .int k] m P Fx) : Fa gd md P w K mg base cls k f fd ps potMake :=
  ⟨fun A outer s H args us vs Q E hg hr e b r ⟨l, G, ts, m, P, Fx, mr, ow, vr, hf, k1, k2⟩ => by
    refine h.run A outer s H args us vs Q E hg hr e b r ?_
    unfold potMake at hf
    split at hf
    · rename_i ns kk
      obtain ⟨h1, h2, h4⟩ := hf
      refine ⟨l, G, _, m, fun t m' => ∃ (x' y' : Int), t = .obj m.length ∧ 0 ≤ x' ∧ 0 ≤ y' ∧ y' < 2147483648 ∧ m' = m ++ [.lst [.int x', .int y']], fun _ _ => False, mr, ow, vr, hi ns kk _ _ _ h1 h2 fun x' y' hx hy hy2 => ⟨x', y', rfl, hx, hy, hy2, rfl⟩, fun t m' G' v H' p s r vr => ?_, fun x m' G' H' c d p => p.elim⟩
      obtain ⟨x', y', rfl, hx, hy, hy2, rfl⟩ := p
      refine k1 _ _ G' v H' h4 s ?_ vr
      have r2 := r.chg (n := m.length) (cl := .pot) fun a' e' => by
        have c := r.cell m.length (.lst [.int x', .int y']) a' (by rw [List.getElem?_append_right (Nat.le_refl _)]; simp) e'
        exact ⟨x', y', pot_lst.mp c, hx, hy, hy2⟩
      rw [List.set_append_right _ _ (Nat.le_refl _)] at r2
      simpa using r2
    · exact hf.elim⟩
theorem CalA.potD {x : Str} (h : CalA gd md P w K mg base cls k x [] 2 F) (hi : ∀ (n : Nat) (x y k : Int) (m : Mem) (P : PX) (Fx : FX), 0 ≤ x → 0 ≤ y → y < 2147483648 → 0 < k → k ≤ 1000000 → m[n]? = some (.lst [.int x, .int y]) →
    (∀ d x' y', 0 ≤ d → d < k → 0 ≤ x' → 0 ≤ y' → y' < 2147483648 → P (.int d) (m.set n (.lst [.int x', .int y']))) → F [.obj n, .int k] m P Fx) : CalA gd md P w K mg base cls k x [] 2 potDraw :=
  let ⟨f, fd, ps, ds, dvs, h1, r⟩ := h.ex; ⟨f, fd, ps, ds, dvs, h1.potD hi, r⟩
theorem CalA.potM {x : Str} (h : CalA gd md P w K mg base cls k x [] 2 F) (hi : ∀ (ns : List Int) (k : Int) (m : Mem) (P : PX) (Fx : FX), 0 ≤ k → k ≤ 1000000 →
    (∀ x y, 0 ≤ x → 0 ≤ y → y < 2147483648 → P (.obj m.length) (m ++ [.lst [.int x, .int y]])) → F [.scr ns, .int k] m P Fx) : CalA gd md P w K mg base cls k x [] 2 potMake :=
  let ⟨f, fd, ps, ds, dvs, h1, r⟩ := h.ex; ⟨f, fd, ps, ds, dvs, h1.potM hi, r⟩
end
/-! ### arithmetic of the drawers -/
theorem div_small {i j : Int} (h0 : 0 < j) (h1 : j < 2 ^ 62) : CDivP i j := by
  refine ⟨h0, ?_⟩
  unfold Builtin.divisionGoesByPylong
  have e : j.natAbs.log2 < 63 := by
    refine Nat.log2_lt (by omega) |>.mpr ?_
    have : (j.natAbs : Int) = j := Int.natAbs_of_nonneg (by omega)
    have h2 : (j.natAbs : Int) < 2 ^ 62 := by rw [this]; exact h1
    have h3 : j.natAbs < 2 ^ 62 := by exact_mod_cast h2
    omega
  have e2 : (if (j == 0) = true then 0 else j.natAbs.log2 / 30 + 1) ≤ 300 := by
    split <;> omega
  simp only [Bool.and_eq_false_iff, decide_eq_false_iff_not]
  left
  omega
theorem mulL {i j : Int} (h : -(2 ^ 64) < i) (h' : i < 2 ^ 64) : MulOk i j := .inl (.inl ⟨h, h'⟩)
theorem mulR {i j : Int} (h : -(2 ^ 64) < j) (h' : j < 2 ^ 64) : MulOk i j := .inl (.inr ⟨h, h'⟩)
theorem pow18 : CPow 10 18 := by unfold CPow; decide +kernel
end AM
set_option maxHeartbeats 4000000
namespace AM
open PySem PySem.Spec PyProof.Rows L2 Eb
/-! ## rules of comprehensions and loops -/
section
variable {α : Type} {ok : Mem → Prop} {g : ACt} {vs : List Nat} {tt : AT} {e : AE} {z : SS} {P : PX} {m : Mem}
theorem lcF (xs : List α) (tr : α → T) (keep : α → Bool) (f : α → T) (hok : ok m)
    (hs : ∀ x ∈ xs, ∀ (Y : PX) (N : Mem → Prop), (keep x = true → Y (f x) m) → (keep x = false → N m) → g (tr x) (wipeA z vs) (fun z1 => tt z1 m (fun k m2 => if k = true then e z1 m2 Y (fun _ _ => False) else N m2) (fun _ _ => False))) :
    ∀ (acc : List T), acc.length + xs.length ≤ sizeLine → P (.lst (acc ++ (xs.filter keep).map f)) m → aLc1 ok g vs tt e z P acc (xs.map tr) m := by
  induction xs with
  | nil => intro acc hl h; exact ⟨hok, by simpa using h⟩
  | cons x xs ih =>
    intro acc hl h
    have ih' := ih fun y hy => hs y (List.mem_cons_of_mem _ hy)
    rw [List.map_cons]
    refine ⟨hok, hs x List.mem_cons_self _ _ (fun hk => ⟨by simp at hl; omega, ih' _ (by simp at hl ⊢; omega) ?_⟩) fun hk => ih' _ (by simp at hl; omega) ?_⟩
    · rw [List.filter_cons, if_pos hk] at h
      simpa using h
    · rw [List.filter_cons, if_neg (by simp [hk])] at h
      exact h
theorem lcM (xs : List α) (tr : α → T) (f : α → T) (hok : ok m)
    (hs : ∀ x ∈ xs, ∀ (Y : PX), Y (f x) m → g (tr x) (wipeA z vs) (fun z1 => e z1 m Y (fun _ _ => False))) (hl : xs.length ≤ sizeLine) (h : P (.lst (xs.map f)) m) : aLc1 ok g vs aYes e z P [] (xs.map tr) m := by
  refine lcF xs tr (fun _ => true) f hok (fun x hx Y N h1 _ => ?_) [] (by simpa using hl) (by rw [List.filter_eq_self.mpr fun _ _ => rfl]; exact h)
  simpa using hs x hx Y (h1 rfl)
/-- by an invariant: what is still to come, what is gathered -/
theorem lcJ (tr : α → T) (J : List α → List T → Mem → Prop)
    (hs : ∀ x r acc m, J (x :: r) acc m → ok m ∧ ∀ (Y : PX) (N : Mem → Prop), (∀ y m', J r (acc ++ [y]) m' → acc.length < sizeLine → Y y m') → (∀ m', J r acc m' → N m') → g (tr x) (wipeA z vs) (fun z1 => tt z1 m (fun k m2 => if k = true then e z1 m2 Y (fun _ _ => False) else N m2) (fun _ _ => False)))
    (hz : ∀ r acc m, J r acc m → acc.length < sizeLine) (he : ∀ acc m, J [] acc m → ok m ∧ P (.lst acc) m) : ∀ (xs : List α) (acc : List T) (m : Mem), J xs acc m → aLc1 ok g vs tt e z P acc (xs.map tr) m
  | [], acc, m, h => he acc m h
  | x :: xs, acc, m, h => by
    rw [List.map_cons]
    obtain ⟨h1, h2⟩ := hs x xs acc m h
    exact ⟨h1, h2 _ _ (fun y m' hj hl => ⟨hl, lcJ tr J hs hz he xs _ _ hj⟩) fun m' hj => lcJ tr J hs hz he xs _ _ hj⟩
end
section
variable {α : Type} {ok : Mem → Prop} {g : AGt} {p : AS} {D : EA}
theorem forJ (tr : α → T) (J : List α → SS → Mem → Prop)
    (hs : ∀ x r z m, J (x :: r) z m → ok m ∧ ∀ N : SS → Mem → Prop, (∀ z m, J r z m → N z m) → g (tr x) z m (fun z1 m1 => p { D with nx := N, ct := N, bk := D.nx } z1 m1) D.ex)
    (he : ∀ z m, J [] z m → ok m ∧ D.nx z m) : ∀ (xs : List α) (z : SS) (m : Mem), J xs z m → sFor1 ok g p D (xs.map tr) z m
  | [], z, m, h => he z m h
  | x :: xs, z, m, h => by
    rw [List.map_cons]
    obtain ⟨h1, h2⟩ := hs x xs z m h
    exact ⟨h1, h2 _ fun z m hj => forJ tr J hs he xs z m hj⟩
end
/-! ## words, patterns, rows -/
def okc (c : Nat) : Bool := decide (32 ≤ c) && decide (c ≤ 126) && !(c == 34 || c == 35 || c == 37 || c == 92)
theorem okc_ne {c : Nat} (h : okc c = true) : c ≠ 35 := by rintro rfl; revert h; decide
theorem okc_lt {c : Nat} (h : okc c = true) : c < 1114112 := by
  unfold okc at h
  simp only [Bool.and_eq_true, decide_eq_true_eq] at h
  omega
structure Wd (l : List Nat) : Prop where
  len : l.length ≤ 20
  all : l.all okc = true
structure Pt where
  a : List Nat
  b : List Nat
structure Pt.Ok (p : Pt) : Prop where
  len : p.a.length + p.b.length ≤ 19
  a : p.a.all okc = true
  b : p.b.all okc = true
def Pt.txt (p : Pt) : List Nat := p.a ++ 35 :: p.b
def Pt.t (p : Pt) : T := .ins "Pattern" [("own_text", .str p.txt), ("own_ahead", .str p.a), ("own_behind", .str p.b)]
def Pt.fill (p : Pt) (d : Int) : List Nat := p.a ++ strI d ++ p.b
inductive Far where
  | wd (l : List Nat)
  | pt (p : Pt)
def Far.Ok : Far → Prop
  | .wd l => Wd l
  | .pt p => p.Ok
def Far.t : Far → T
  | .wd l => .str l
  | .pt p => p.t
end AM
namespace AM
open PySem PySem.Spec PyProof.Rows L2 Eb
theorem cutT_to {α : Type} {l : List α} {k : Nat} : cutT l none (some (k : Int)) = l.take k := by
  unfold cutT
  rw [HT.sIx_none, HT.sIx_nat, List.drop_zero, Nat.sub_zero]
  by_cases h : k ≤ l.length
  · rw [Nat.min_eq_left h]
  · rw [Nat.min_eq_right (by omega), List.take_of_length_le (Nat.le_refl _), List.take_of_length_le (by omega)]
theorem cutT_from {α : Type} {l : List α} {k : Nat} : cutT l (some (k : Int)) none = l.drop k := by
  unfold cutT
  rw [HT.sIx_none, HT.sIx_nat]
  by_cases h : k ≤ l.length
  · rw [Nat.min_eq_left h, List.take_of_length_le (by rw [List.length_drop]; exact Nat.le_refl _)]
  · rw [Nat.min_eq_right (by omega), List.drop_eq_nil_of_le (Nat.le_refl _), List.drop_eq_nil_of_le (by omega), List.take_nil]
theorem log2_small {d : Int} (h0 : 0 ≤ d) (h : d < 2 ^ 1900) : d.natAbs.log2 < 1920 := by
  rcases Nat.eq_zero_or_pos d.natAbs with z | z
  · rw [z]; decide
  · refine (Nat.log2_lt (by omega)).mpr ?_
    have h2 : (d.natAbs : Int) < ((2 ^ 1900 : Nat) : Int) := by rw [Int.natAbs_of_nonneg h0]; exact_mod_cast h
    have h3 : d.natAbs < 2 ^ 1900 := by exact_mod_cast h2
    exact Nat.lt_of_lt_of_le h3 (Nat.pow_le_pow_right (by decide) (by decide))
/-! ## rows, books in the memory -/
structure RowM where
  ws : List (List Nat)
  far : Far
structure RowM.Ok (r : RowM) : Prop where
  len : r.ws.length ≤ 8
  ws : ∀ w ∈ r.ws, Wd w
  far : r.far.Ok
def Far.at : Far → Int → List Nat
  | .wd l, _ => l
  | .pt p, d => p.fill d
def RowM.word (r : RowM) (d : Nat) : List Nat := match r.ws[d]? with | some w => w | none => r.far.at d
def rowC (k : Nat) (r : RowM) : Cell := .ins "Row" [("own_told", .obj k), ("own_far", r.far.t)]
def wsC (r : RowM) : Cell := .lst (r.ws.map T.str)
structure RowAt (m : Mem) (n k : Nat) (r : RowM) : Prop where
  row : m[n]? = some (rowC k r)
  ws : m[k]? = some (wsC r)
theorem RowAt.ext {m : Mem} {n k : Nat} {r : RowM} (h : RowAt m n k r) (g : Mem) : RowAt (m ++ g) n k r :=
  ⟨by rw [List.getElem?_append_left (List.getElem?_eq_some_iff.mp h.row).1]; exact h.row, by rw [List.getElem?_append_left (List.getElem?_eq_some_iff.mp h.ws).1]; exact h.ws⟩
theorem RowAt.set {m : Mem} {n k : Nat} {r : RowM} (h : RowAt m n k r) {i : Nat} {c : Cell} (h1 : i ≠ n) (h2 : i ≠ k) : RowAt (m.set i c) n k r :=
  ⟨by rw [List.getElem?_set_ne h1]; exact h.row, by rw [List.getElem?_set_ne h2]; exact h.ws⟩
theorem strI_len {d : Int} (h : d.natAbs.log2 < 1920) : (strI d).length ≤ 1922 := by
  have hl := nat_repr_length_le (n := d.natAbs) (k := 1921) (by decide) (by
    by_cases h0 : d.natAbs = 0
    · rw [h0]; decide +kernel
    · exact Nat.lt_of_lt_of_le ((Nat.log2_lt h0).mp (Nat.lt_succ_self _)) (Nat.pow_le_pow_right (by decide) (by omega)))
  show ((toString d).toList.map Char.toNat).length ≤ 1922
  rw [List.length_map]
  have e : (toString d).toList.length = (toString d).length := rfl
  rw [e]
  cases d with
  | ofNat n => show (Nat.repr n).length ≤ 1922; have : (Int.ofNat n).natAbs = n := rfl; rw [this] at hl; omega
  | negSucc n =>
    have e2 : (toString (Int.negSucc n)) = "-" ++ Nat.repr (n + 1) := rfl
    rw [e2, String.length_append]
    have : (Int.negSucc n).natAbs = n + 1 := rfl
    rw [this] at hl
    have : ("-" : String).length = 1 := rfl
    omega
/-- a list or a tuple of these -/
def SqV (m : Mem) (t : T) (xs : List T) : Prop := t = .lst xs ∨ t = .tup xs ∨ ∃ k, t = .obj k ∧ m[k]? = some (.lst xs)
end AM
set_option maxHeartbeats 4000000
namespace AM
open PySem PySem.Spec PyProof.Rows L2 Eb
/-! ## the head's run: the module's names, level by level -/
def refsL (o : Obj) : List Addr := match o.data with
  | .seq its _ => its.toList.flatMap He.refV
  | .dict es _ => es.toList.flatMap fun e => He.refV e.val
  | .func fd => He.refV fd.code ++ He.refV fd.defaults
  | .cls cd => [cd.ns]
  | .fields vs => vs.toList.flatMap He.refV
  | _ => []
def nxtL (g : Addr → Option Obj) (as : List Addr) : List Addr := (as.flatMap fun a => match g a with
  | some o => refsL o
  | none => []).filter fun a => Nat.ble 4 a
def frL {α : Type} : List Addr → (List Addr → α) → α
  | [], k => k []
  | a :: r, k => HandSHeadRun.frNat a fun a => frL r fun r => k (a :: r)
def levL {α : Type} (g : Addr → Option Obj) : Nat → List Addr → List Addr → (List Addr → α) → α
  | 0, l, acc, k => k (acc ++ l)
  | n + 1, l, acc, k => frL (nxtL g l) fun l' => levL g n l' (acc ++ l) k
def obsZG (n : Nat) (cs : List (PySem.W.Frag → Bool)) (fn : List DefP) (g : Addr → Option Obj) : He.AlD := levL g n [mainGlobals] [cStatics, builtinsNs] fun as => obsY cs fn (He.frG g as)
theorem frL_eq {α : Type} : ∀ (l : List Addr) (k : List Addr → α), frL l k = k l
  | [], k => rfl
  | a :: r, k => by rw [frL, HandSHeadRun.frNat_eq, frL_eq r]
theorem levL_ex {α : Type} (g : Addr → Option Obj) (k : List Addr → α) : ∀ (n : Nat) (l acc : List Addr), ∃ as, levL g n l acc k = k as
  | 0, l, acc => ⟨_, rfl⟩
  | n + 1, l, acc => by rw [levL, frL_eq]; exact levL_ex g k n _ _
def hookZ (n : Nat) (cs : List (PySem.W.Frag → Bool)) (fn : List DefP) : PySem.W.Hook where
  α := He.AlD
  obs := fun s => obsZG n cs fn s.heap.get?
  val := fun _ => valP fn
  says := fun _ h => ∃ K : PySem.W.Frag, K.In h ∧ SaysY cs fn K
  of := fun _ s e => by
    obtain ⟨as, ea⟩ := levL_ex s.heap.get? (fun as => obsY cs fn (He.frG s.heap.get? as)) n [mainGlobals] [cStatics, builtinsNs]
    exact ⟨_, He.frG_in, ea.symm.trans e⟩
  keeps := fun _ _ _ ⟨K, hK, c⟩ k => ⟨K, hK.keeps k, c⟩
theorem obsZG_eq {n : Nat} {cs : List (PySem.W.Frag → Bool)} {fn : List DefP} {g : Addr → Option Obj} {s : Shared} (h : ∀ a, g a = s.heap.get? a) : obsZG n cs fn g = (hookZ n cs fn).obs s := by
  rw [show g = s.heap.get? from funext h]; rfl
/-! ### part by part -/
theorem obsY_app {c1 c2 : List (PySem.W.Frag → Bool)} {f1 f2 : List DefP} {K : PySem.W.Frag} (h1 : obsY c1 f1 K = valP f1) (h2 : obsY c2 f2 K = valP f2) : obsY (c1 ++ c2) (f1 ++ f2) K = valP (f1 ++ f2) := by
  unfold obsY valP at *
  simp only [Prod.mk.injEq, Bool.and_eq_true, List.all_append, List.map_append] at *
  exact ⟨⟨⟨h1.1.1, h2.1.1⟩, h1.1.2, h2.1.2⟩, by rw [h1.2, h2.2]⟩
theorem levL_at {α β : Type} (g : Addr → Option Obj) (k : List Addr → α) (k' : List Addr → β) : ∀ (n : Nat) (l acc : List Addr), ∃ as, levL g n l acc k = k as ∧ levL g n l acc k' = k' as
  | 0, l, acc => ⟨_, rfl, rfl⟩
  | n + 1, l, acc => by rw [levL, levL, frL_eq, frL_eq]; exact levL_at g k k' n _ _
theorem obsZ_app {n : Nat} {c1 c2 : List (PySem.W.Frag → Bool)} {f1 f2 : List DefP} {g : Addr → Option Obj} (h1 : obsZG n c1 f1 g = valP f1) (h2 : obsZG n c2 f2 g = valP f2) : obsZG n (c1 ++ c2) (f1 ++ f2) g = valP (f1 ++ f2) := by
  unfold obsZG at *
  obtain ⟨as, e1, e2⟩ := levL_at g (fun as => obsY c1 f1 (He.frG g as)) (fun as => obsY c2 f2 (He.frG g as)) n [mainGlobals] [cStatics, builtinsNs]
  obtain ⟨as', e3, e4⟩ := levL_at g (fun as => obsY (c1 ++ c2) (f1 ++ f2) (He.frG g as)) (fun as => as) n [mainGlobals] [cStatics, builtinsNs]
  obtain ⟨as2, e5, e6⟩ := levL_at g (fun as => obsY c1 f1 (He.frG g as)) (fun as => as) n [mainGlobals] [cStatics, builtinsNs]
  obtain ⟨as3, e7, e8⟩ := levL_at g (fun as => obsY c2 f2 (He.frG g as)) (fun as => as) n [mainGlobals] [cStatics, builtinsNs]
  have q1 : as2 = as' := e6.symm.trans e4
  have q2 : as3 = as' := e8.symm.trans e4
  subst q1 q2
  rw [e3]
  exact obsY_app (e5.symm.trans h1) (e7.symm.trans h2)
theorem run_comb {r : PySem.W.OpenRow} {q : Program} {n : Nat} {c1 c2 : List (PySem.W.Frag → Bool)} {f1 f2 : List DefP} {M : Nat} {loose : List Str} {w : World}
    (h1 : HandSHeadRun.RunEq r q (hookZ n c1 f1) (fun s => obsZG n c1 f1 (HandSHeadRun.getT s)) M loose w) (h2 : HandSHeadRun.RunEq r q (hookZ n c2 f2) (fun s => obsZG n c2 f2 (HandSHeadRun.getT s)) M loose w) :
    HandSHeadRun.RunEq r q (hookZ n (c1 ++ c2) (f1 ++ f2)) (fun s => obsZG n (c1 ++ c2) (f1 ++ f2) (HandSHeadRun.getT s)) M loose w := by
  intro os
  obtain ⟨s, hs, e1⟩ := Option.map_eq_some_iff.mp (h1 os)
  have b := h2 os
  rw [hs] at b ⊢
  have e2 := Option.some.inj b
  have a1 := (Prod.mk.inj (Prod.mk.inj e1).2)
  have a2 := (Prod.mk.inj (Prod.mk.inj e2).2)
  refine congrArg some (Prod.ext (Prod.mk.inj e1).1 (Prod.ext a1.1 ?_))
  exact obsZ_app a1.2 a2.2
end AM
set_option maxHeartbeats 4000000
namespace AM
open PySem PySem.Spec PyProof.Rows L2 Eb
/-! ## own & and |, != by an own ==, augmented assignment of an own object -/
@[simp] def fOwnB (C : String) (F : AF) : A2X := fun x y m P Fx => clsIs m x C ∧ clsIs m y C ∧ F [x, y] m (fun t m3 => noC t ∧ P t m3) Fx
@[simp] def fNeO (C : String) (F : AF) : A2X := fun x y m P Fx => clsIs m x C ∧ clsIs m y C ∧ F [x, y] m (fun t m3 => match t with | .bl b => P (.bl (!b)) m3 | _ => False) Fx
section
variable {gd md : Bool} {c : Cl} {X : Cx} {k j n : Nat} {C : String} {F : AF} {dts : List T} {x m : Str} {p pos apos : Pos} {e o e1 e2 : Expr} {es : List Expr} {a b : AE} {l : AA} {anc : String → List String}
/-- the two operands are instances of C; what runs is the method -/
theorem opA_two {g : Value → Value → Sem Value} (h : MetA gd md X.prog X.w X.K X.mg X.base c.cls k C m [] 1 F) (hg : gd = true → X.A.guards = some []) (hr : Room j X.A) (hk : k ≤ j) (tk : Pas md X c.W)
    (ho : ∀ (f : Addr) (pins : List (Addr × Obj)) (s : Shared) (σ : L2.St) (H : Hp) (q q2 dx dx2 : Addr) (us us2 : List (Str × V)) (Q : Value → Shared → Prop), Meth X.K (ga X.K C) m f → Inv X pins σ H s → H q = some (.ins (ga X.K C) dx us) → H q2 = some (.ins (ga X.K C) dx2 us2) →
      wpAny (model X.prog X.w) X.A (call (.ref f) [.ref q, .ref q2]) (PySem.W.CmpBack Q) X.xe s → wpAny (model X.prog X.w) X.A (g (.ref q) (.ref q2)) Q X.xe s) : OpA c X g (fOwnB C F) := by
  obtain ⟨f, fd, ps, ds, dvs, hm, hf, hlen, bd, d, vd⟩ := h.ex
  intro pins s σ H0 H G0 G m0 x y v u v' u' P Fx Q I mr st vx vy rx ry ⟨hc, hs, p3⟩ kk
  obtain ⟨⟨C', fs⟩, e1, e2⟩ := Option.map_eq_some_iff.mp hc
  cases (show C' = C from e2)
  obtain ⟨q, dx, us, rfl, ha, ik, vf⟩ := rdI mr (.inl vx) e1
  obtain ⟨⟨C2, gs⟩, e3, e4⟩ := Option.map_eq_some_iff.mp hs
  cases (show C2 = C from e4)
  obtain ⟨q2, dx2, us2, rfl, ha2, ik2, vf2⟩ := rdI mr (.inl vy) e3
  obtain rfl : v' = Value.ref q := rx
  obtain rfl : u' = Value.ref q2 := ry
  have kk' : Cont (VR (go X c.cls)) (go X c.cls) c.W G0 H0 σ (fun t m3 => noC t ∧ P t m3) Fx (fun v H' => (∀ u s (R : Value → Shared → Prop), RelV v u → R u s → PySem.W.CmpBack R u s) ∧ Q v H') := ⟨fun t m' G' v H' ⟨p, p'⟩ s r vr => ⟨fun u s R ru q => noC_back p vr ru q, kk.ok t m' G' v H' p' s r vr⟩, kk.ex⟩
  have sp := call_sp (F := F) (n := ps.length) (vs := [.ref q, .ref q2] ++ dvs) (ts := [x, y]) (by rw [List.length_append, hlen, ← (vd G H).length]; rfl) kk' st mr (vrs_cons.mpr ⟨_, _, rfl, vx, vrs_cons.mpr ⟨_, _, rfl, vy, by cases vrs_nil.mp (vd G H); exact vrs_nil.mpr rfl⟩⟩) p3
  refine ho f pins s σ H q q2 dx dx2 us us2 _ hm I ha ha2 ?_
  exact thn (runA (us := [.ref q, .ref q2]) (vs := [.ref q, .ref q2]) hf hg (hr.mono hk) tk bd d I (.cons rfl (.cons rfl .nil)) sp) fun w s3 ⟨v', H', I', rv, hcb, q'⟩ => hcb w s3 _ rv ⟨v', H', I', rv, q'⟩
theorem opA_bin {op : Operator} (h : MetA gd md X.prog X.w X.K X.mg X.base c.cls k C m [] 1 F) (hm' : PySem.dunder op.info.2 = m) (sf : PySem.W.selfFirst X.K (ga X.K C) = true) (hg : gd = true → X.A.guards = some []) (hr : Room j X.A) (hk : k ≤ j) (tk : Pas md X c.W) : OpA c X (binaryOp op) (fOwnB C F) :=
  opA_two h hg hr hk tk fun f pins s σ H q q2 dx dx2 us us2 Q hm I ha ha2 hq => by
    obtain ⟨mA, O, _⟩ := ins_get I.hok ha
    obtain ⟨od, J, _⟩ := O.look
    obtain ⟨mA2, O2, _⟩ := ins_get I.hok ha2
    obtain ⟨od2, J2, _⟩ := O2.look
    obtain ⟨mm, Fm⟩ := I.fr
    exact PySem.W.binop_K Fm I.ok.mod.kin J J2.type sf (by rw [hm']; exact hm.at_) hm.fn hq
theorem opA_inp {op : Operator} (h : MetA gd md X.prog X.w X.K X.mg X.base c.cls k C m [] 1 F) (hm' : PySem.dunderI op.info.2 = m) (sf : PySem.W.selfFirst X.K (ga X.K C) = true) (hg : gd = true → X.A.guards = some []) (hr : Room j X.A) (hk : k ≤ j) (tk : Pas md X c.W) : OpA c X (inplaceOp op) (fOwnB C F) :=
  opA_two h hg hr hk tk fun f pins s σ H q q2 dx dx2 us us2 Q hm I ha ha2 hq => by
    obtain ⟨mA, O, _⟩ := ins_get I.hok ha
    obtain ⟨od, J, _⟩ := O.look
    obtain ⟨mm, Fm⟩ := I.fr
    exact PySem.W.ksp_inplace Fm I.ok.mod.kin J sf (by rw [hm']; exact hm.at_) hm.fn hq
/-- x op= e, of own objects -/
@[simp] def sAugX (i : Nat) (f : A2X) (a : AE) : AS := fun D z m => match z[i]? with | some (some (.v x)) => a z m (fun y m1 => f x y m1 (fun t m2 => D.nx (z.set i (some (.v t))) m2) (fun _ _ => False)) (D.ex z) | _ => False
theorem s_augX {i : Nat} {op : Operator} {f : A2X} {st : Stmt} (mk : ∀ {te : TE} {ti : TIp}, PE X e te → PIp X op ti → PS X st (tAug i te ti)) (O : OpA c X (inplaceOp op) f) (he : SE c X e a) : S1 c X st (sAugX i f a) := by
  have ip : PIp X op (fun v y H1 Q => ∃ G1 m1 xt yt P, MR (go X c.cls) G1 m1 H1 ∧ VR (go X c.cls) G1 H1 xt v ∧ VR (go X c.cls) G1 H1 yt y ∧ f xt yt m1 P (fun _ _ => False) ∧ ∀ t m' G' w H', P t m' → Stp G1 H1 G' H' → MR (go X c.cls) G' m' H' → VR (go X c.cls) G' H' t w → Q w H') := by
    intro pins s σ H v y u w Q I rx ry ⟨G1, m1, xt, yt, P, mr, vx, vy, hf, kq⟩
    exact O pins s σ H H G1 G1 m1 xt yt v y u w P (fun _ _ => False) Q I mr Stp.refl vx vy rx ry hf ⟨fun t m' G' v H' p s r vr => kq t m' G' v H' p s r vr, fun _ _ _ _ _ _ z => z.elim⟩
  refine ps_weak (mk he ip) fun E σ H ⟨G, z, m, D, mr, sr, h, k⟩ => ?_
  simp only [sAugX] at h
  split at h
  · rename_i xt ez
    obtain ⟨v, ev, vx⟩ := sr.val i xt ez
    refine ⟨v, ev, ?_⟩
    exact ⟨G, z, m, _, _, mr, sr, h, k.ex' mr.nd sr fun t m1 G1 v1 H1 p1 s1 r1 vr => ⟨G1, m1, xt, t, _, r1, s1.vr vx, vr, p1, fun t2 m2 G2 w H2 p2 s2 r2 v2 => k.nx _ m2 G2 _ H2 p2 (s1.trans s2).ss r2 ((sr.step mr.nd (s1.trans s2)).set v2 i)⟩⟩
  · exact h.elim
/-! ### != -/
theorem opA_ne (h : MetA gd false X.prog X.w X.K X.mg X.base c.cls k C "__eq__" [] 1 F) (hn : PySem.W.findIn X.K (.ref (ga X.K C)) "__ne__" = some (some (.builtin "object.__ne__"))) (ho : PySem.W.mroIn X.K (ga X.K C) (.type "object") = some true) (hg : gd = true → X.A.guards = some []) (hr : Room j X.A) (hk : k + 1 ≤ j) (tk : Pas false X c.W) : OpA c X (compareOp .NotEq) (fNeO C F) := by
  obtain ⟨f, fd, ps, ds, dvs, hm, hf, hlen, bd, d, vd⟩ := h.ex
  intro pins s σ H0 H G0 G m0 x y v u v' u' P Fx Q I mr st vx vy rx ry ⟨hc, hs, p3⟩ kk
  obtain ⟨⟨C', fs⟩, e1, e2⟩ := Option.map_eq_some_iff.mp hc
  cases (show C' = C from e2)
  obtain ⟨a, dx, us, rfl, ea, ik, vf⟩ := rdI mr (.inl vx) e1
  obtain ⟨⟨C2, gs⟩, e3, e4⟩ := Option.map_eq_some_iff.mp hs
  cases (show C2 = C from e4)
  obtain ⟨b, dy, us2, rfl, eb, ik2, vf2⟩ := rdI mr (.inl vy) e3
  obtain rfl : v' = Value.ref a := rx
  obtain rfl : u' = Value.ref b := ry
  have kk' : Cont (VR (go X c.cls)) (go X c.cls) c.W G0 H0 σ (fun t m3 => match t with | .bl b => P (.bl (!b)) m3 | _ => False) Fx (fun v H' => ∃ z, v = .bl z ∧ Q (.bl (!z)) H') := ⟨fun t m' G' v H' p s r vr => by
    cases t with
    | bl z => exact ⟨z, vr_bl.mp vr, kk.ok _ m' G' _ H' p s r (vr_bl.mpr rfl)⟩
    | _ => exact p.elim, kk.ex⟩
  have sp := call_sp (F := F) (n := ps.length) (vs := [.ref a, .ref b] ++ dvs) (ts := [x, y]) (by rw [List.length_append, hlen, ← (vd G H).length]; rfl) kk' st mr (vrs_cons.mpr ⟨_, _, rfl, vx, vrs_cons.mpr ⟨_, _, rfl, vy, by cases vrs_nil.mp (vd G H); exact vrs_nil.mpr rfl⟩⟩) p3
  obtain ⟨mA, O, _⟩ := ins_get I.hok ea
  obtain ⟨od, J, _⟩ := O.look
  obtain ⟨mB, O', _⟩ := ins_get I.hok eb
  obtain ⟨od', J', _⟩ := O'.look
  have KX := I.kIn
  have rm : Room k X.A.in1 := (hr.mono hk).in1
  have cal : wpAny (model X.prog X.w) X.A.in1 (call (.ref f) [.ref a, .ref b]) (fun v s' => ∃ z, v = .bool z ∧ EP X pins σ Q (.bool (!z)) s') X.xe s := by
    have rr := runA1 (R := fun r s' => match r with | .ok (.ret v) => ∃ z, v = .bool z ∧ EP X pins σ Q (.bool (!z)) s' | .ok _ => False | .error e => X.xe e s') (us := [.ref a, .ref b]) (vs := [.ref a, .ref b]) hf hg (hr.mono hk) tk bd d I (.cons rfl (.cons rfl .nil)) sp (fun v s' ⟨w, H', I', rw', z, ez, qz⟩ => by
      subst ez
      cases (show v = Value.bool z from rw')
      exact ⟨z, rfl, .bl (!z), H', I', rfl, qz⟩) (fun z => by cases z)
    refine wpAny_call (codeAny_mono rr fun r s' hq => ?_)
    cases r with
    | error e => exact hq
    | ok fl => cases fl <;> first | exact hq | exact hq.elim
  show wpAny (model X.prog X.w) X.A (richCompare .NotEq (.ref a) (.ref b)) (EP X pins σ Q) X.xe s
  unfold richCompare
  simp only [oneThing_ref]
  refine wpAny_holding (wpAny_bind (wpAny_cRoomFor hr.units0 ?_))
  refine wpAny_bind (J.type.here (wpAny_bind (J'.type.here ?_)))
  rw [show (Value.ref (ga X.K C) != Value.ref (ga X.K C)) = false from by simp]
  simp only [Bool.false_eq_true, if_false]
  refine wpAny_bind (wpAny_pure ?_)
  simp only [Bool.false_eq_true, if_false]
  have one : wpAny (model X.prog X.w) X.A (tryCompare (.ref a) (cmpInfo .NotEq).2.1 (.ref b)) (fun r s' => ∃ z, r = some z ∧ EP X pins σ Q z s') X.xe s := by
    unfold tryCompare
    refine wpAny_bind ?_
    simp only [callSpecialIfBound?, bindSpecialIfBound?]
    refine wpAny_holding (wpAny_bind (wpAny_bind (wpAny_bind (J.type.here ((PySem.W.looks_findIn KX hn).here ?_)))))
    simp only [on_slot.bind]
    refine wpAny_bind (wpAny_askSetting (wpAny_ite ?_))
    have cl : wpAny (model X.prog X.w) X.A (call (.builtin "object.__ne__") [.ref a, .ref b]) (fun v s' => ∃ z, v = .bool z ∧ EP X pins σ Q (.bool z) s') X.xe s := by
      refine wpAny_call (codeAny_call_builtin on_slot.plain PySem.F.cmpEntry_ne (PySem.W.check_slot PySem.F.cmpKind_ne PySem.F.cmpSplit_ne (J.type.andThen (PySem.W.looks_mroIn KX ho)) (PySem.F.cmpArgs_ne _ _) ?_))
      unfold Builtin.«object.__ne__»
      refine wpAny_bind (wpAny_pure ?_)
      refine wpAny_bind (wpAny_cRoomFor rm.units0 ?_)
      refine wpAny_bind (PySem.W.ifBound_K KX J hm.at_ hm.fn (thn cal fun v s' ⟨z, hz, hq⟩ => ?_))
      subst hz
      refine wpAny_bind (wpAny_truthy_bool ?_)
      exact wpAny_pure ⟨_, rfl, hq⟩
    have fin : wpAny (model X.prog X.w) X.A (call (.builtin "object.__ne__") ([.ref a] ++ [.ref b]) >>= fun v => pure (some v)) (fun r s' => wpAny (model X.prog X.w) X.A (match r with
        | some .notImplemented | none => pure none
        | some v => pure (some v)) (fun r s' => ∃ z, r = some z ∧ EP X pins σ Q z s') X.xe s') X.xe s := by
      refine wpAny_bind (thn cl fun v s' ⟨z, hz, hq⟩ => wpAny_pure ?_)
      subst hz
      exact wpAny_pure ⟨_, rfl, hq⟩
    split
    · exact wpAny_bind (wpAny_pure (wpAny_pure fin))
    · exact wpAny_tryCatch (wpAny_bind (wpAny_pure (wpAny_pure fin)))
  refine wpAny_bind (thn one fun r s' ⟨z, hz, h⟩ => ?_)
  subst hz
  exact wpAny_pure h
end
end AM
set_option maxHeartbeats 4000000
namespace AM
open PySem PySem.Spec PyProof.Rows L2 Eb
/-! ## three at once, a field's += , str of an own object -/
@[simp] def sPar3 (i j l : Nat) (a : AA) : AS := fun D z m => a z m (fun ts m1 => match ts with | [t, u, w] => D.nx (((z.set i (some (.v t))).set j (some (.v u))).set l (some (.v w))) m1 | _ => False) (D.ex z)
@[simp] def sFldA (cs : List String) (f : String) (o a : AE) : AS := fun D z m => o z m (fun x m1 => match x with
  | .obj n => (match m1[n]? with
    | some (.ins C fs) => C ∈ cs ∧ fs.length < 1000 ∧ (match fs.lookup f with
      | some (.int i) => a z m1 (fun y m2 => match y with | .int j => m2 = m1 ∧ D.nx z (m1.set n (.ins C (putT f (.int (i + j)) fs))) | _ => False) (D.ex z)
      | _ => False)
    | _ => False)
  | _ => False) (D.ex z)
section
variable {gd md : Bool} {c : Cl} {X : Cx} {k j n : Nat} {C f : String} {cs : List String} {F : AF} {dts : List T} {x m : Str} {p pos pos' apos : Pos} {e o e1 e2 : Expr} {es : List Expr} {a b : AE} {l : AA} {st : Stmt}
theorem s_par3 {i j h : Nat} (mk : ∀ {t : TA}, PA X es t → PS X st (tPar3 i j h t)) (he : SA c X es l) : S1 c X st (sPar3 i j h l) := ps_weak (mk he) fun E σ H ⟨G, z, m, D, mr, sr, hh, k⟩ =>
  ⟨G, z, m, _, _, mr, sr, hh, k.ex' mr.nd sr fun ts m1 G1 vs H1 p1 s1 r1 vr => by
    match ts, p1, vr with
    | [t, u, w], p1, vr =>
      obtain ⟨v1, r, rfl, h1, h2⟩ := vrs_cons.mp vr.1
      obtain ⟨v2, r, rfl, h3, h4⟩ := vrs_cons.mp h2
      obtain ⟨v3, r, rfl, h5, h6⟩ := vrs_cons.mp h4
      cases vrs_nil.mp h6
      exact ⟨v1, v2, v3, rfl, k.nx _ m1 G1 _ H1 p1 s1.ss r1 ((((sr.step mr.nd s1).set h1 i).set h3 j).set h5 h)⟩⟩
theorem s_fldA (hna : ∀ C ∈ cs, C ∈ c.cls → NoAttr X.K (ga X.K C) (PySem.Str.ofString f)) (ho : SE c X o b) (he : SE c X e a) : S1 c X (.AugAssign (.Attribute o (PySem.Str.ofString f) pos') .Add e pos) (sFldA cs f b a) := ps_weak (ps_fldaug ho he in_add) fun E σ H ⟨G, z, m, D, mr, sr, h, k⟩ =>
  ⟨G, z, m, _, _, mr, sr, h, k.ex' mr.nd sr fun x m1 G1 v1 H1 p1 s1 r1 vx => by
    have k1 := k.step s1.ss mr.nd r1.nd
    have sr1 := sr.step mr.nd s1
    split at p1
    · split at p1
      · rename_i nn C fs hx
        obtain ⟨hC, hl, p1⟩ := p1
        split at p1
        · rename_i i hi
          obtain ⟨a0, rfl, ha, dx, us, h1, ik, vf⟩ := r1.obj vx hx
          obtain ⟨v0, e0, w0⟩ := vf.look hi
          cases vr_int.mp w0
          refine ⟨a0, _, dx, us, _, rfl, h1, ik.cl, hna C hC ik.mem, e0, ?_⟩
          refine ⟨G1, z, m1, _, _, r1, sr1, p1, k1.ex' r1.nd sr1 fun y m2 G2 v2 H2 p2 s2 r2 vy => ?_⟩
          split at p2
          · rename_i jj
            obtain ⟨rfl, p2⟩ := p2
            cases vr_int.mp vy
            obtain ⟨a1, dx1, us1, e1, h2, cl, hl', r3, s3⟩ := fld_put (t := .int (i + jj)) (u := .int (i + jj)) (hna C hC ik.mem) r2 (s2.vr vx) hx (vr_int.mpr rfl)
            cases e1
            exact ⟨i, jj, rfl, rfl, dx1, us1, h2, by rw [hl']; exact hl, k1.nx z _ G2 σ _ p2 (s2.trans s3).ss r3 (sr1.step r1.nd (s2.trans s3))⟩
          · exact p2.elim
        · exact p1.elim
      · exact p1.elim
    · exact p1.elim⟩
/-! ### str -/
@[simp] def fStr (C : String) (F : AF) : A1X := fun x m P Fx => match asI m x with
  | some (C', _) => C' = C ∧ F [x] m (fun t m3 => (match t with | .str _ => True | _ => False) ∧ P t m3) Fx
  | none => strA [x] m P
theorem op1_LV {fv : Value} {r : List V → Hp → VK → Prop} {f : List T → Mem → PX → Prop} (ho : CallR X fv r) (S : SimL (go X c.cls) r f) : Op1 c X (fun v => call fv [v]) (fun x m P _ => f [x] m P) :=
  fun pins s σ H0 H G0 G m x v v' P Fx Q I mr st vx rx h kk => ho pins s σ H [v] [v'] Q I (.cons rx .nil) (S G m H [x] [v] P Q mr (.cons (.inl vx) .nil) h fun t m' G' w H' p s r v => kk.ok t m' G' w H' p (st.trans s) r v)
theorem op1_str (h : MetA gd false X.prog X.w X.K X.mg X.base c.cls k C "__str__" [] 0 F) (hg : gd = true → X.A.guards = some []) (hr : Room j X.A) (hk : k + 2 ≤ j) (tk : Pas false X c.W) : Op1 c X (fun v => call (.type "str") [v]) (fStr C F) := by
  have O2 : Op1 c X (fun v => call (.type "str") [v]) (fun x m P _ => strA [x] m P) := op1_LV (call_or call_str_int SkE.call_str_str) sim_str
  obtain ⟨f, fd, ps, ds, dvs, hm, hf, hlen, bd, d, vd⟩ := h.ex
  intro pins s σ H0 H G0 G m0 x v v' P Fx Q I mr st vx rx hq kk
  unfold fStr at hq
  split at hq
  · rename_i C' fs e1
    obtain ⟨rfl, p3⟩ := hq
    obtain ⟨q, dx, us, rfl, ha, ik, vf⟩ := rdI mr (.inl vx) e1
    obtain rfl : v' = Value.ref q := rx
    obtain ⟨mA, O, _⟩ := ins_get I.hok ha
    obtain ⟨od, J, _⟩ := O.look
    have sp := own_sp (f := f) (F := F) (ps := ps) (dts := []) (dvs := dvs) (ts := [x]) (vs := [.ref q]) (Q' := fun v H' => ∃ z : Str, v = .str z ∧ Q v H') (by rw [hlen]; rfl) vd st mr (VRs.one vx) kk (fun t m' G' v H' ⟨p, p'⟩ s r vr => by
      cases t with
      | str i => obtain ⟨e, _⟩ := vr_str.mp vr; exact ⟨_, e, kk.ok _ m' G' _ H' p' s r vr⟩
      | _ => exact p.elim) p3
    have tk : c.W = noW := tk
    rw [tk] at sp
    have hl : ([Value.ref q] ++ ds).length = ps.length := by
      have r2 : Vals ([V.ref q] ++ dvs) ([Value.ref q] ++ ds) := Vals.append (xs := [V.ref q]) (us := [Value.ref q]) (.cons rfl .nil) d
      rw [← r2.length]; exact sp.1
    have rm : Room (k + 2) X.A := hr.mono hk
    have cal : wpAny (model X.prog X.w) X.A.in1.in1 (call (.ref f) [.ref q]) (PySem.W.StrBack (EP X pins σ Q)) X.xe s := by
      refine wpAny_call (codeAny_mono (hf.run X.A.in1.in1 X.stack s H ⟨[.ref q], []⟩ ([.ref q] ++ ds) ([.ref q] ++ dvs) _ noE hg rm.in1.in1 I.env0.in1.in1 (bd s [.ref q] I.kIn hl) (Vals.append (xs := [V.ref q]) (us := [Value.ref q]) (.cons rfl .nil) d) sp) fun r s' hq => ?_)
      cases r with
      | error e => exact False.elim hq
      | ok fl =>
        cases fl with
        | ret w =>
          obtain ⟨v', H', I', rv, z, ez, q'⟩ := I.after hq
          subst ez
          obtain ⟨t, rfl⟩ := rv
          exact ⟨.str z, H', I', ⟨t, rfl⟩, q'⟩
        | _ => exact False.elim hq
    exact PySem.W.kso_call rm.in1.in1.units0 I.kIn J hm.at_ hm.fn cal
  · exact O2 pins s σ H0 H G0 G m0 x v v' P Fx Q I mr st vx rx hq kk
theorem se_ty1 {Ty : String} {f : A1X} (O : Op1 c X (fun v => call (.type Ty) [v]) f) (hg : Gl X x) (hm : X.mg x = none) (hv : bootBuiltins x = some (.type Ty)) (h1 : SE c X e1 a) (hn : x ≠ "__name__" := by decide) (hdb : (x == ("__debug__" : Str)) = false := by decide)
    (he : starEach [e1] X.env = (false, eval e1 X.env) :: starEach [] X.env := by rfl) : SE c X (.Call (.Name x p) [e1] [] pos) (a1x f a) := by
  refine ⟨fun pins s σ H Q I hq => ?_⟩
  refine wpAny_Call_Name_kw (ld_blt I hg hm hv ?_ hn hdb)
  obtain ⟨G, z, m0, P, Fx, mr, sr, hl, kk⟩ := hq
  refine PyProof.Rows.callWith_type1 (rest := []) (thn ((pa_cons h1 pa_nil he).run pos pins s σ H (fun vs H2 => ∃ v G2 m2 x, vs = [v] ∧ MR (go X c.cls) G2 m2 H2 ∧ Stp G H G2 H2 ∧ VR (go X c.cls) G2 H2 x v ∧ f x m2 P Fx) I ?_) fun us s2 ⟨vs, H2, I2, rx, v, G2, m2, xt, ev, r2, st, vx, h⟩ => ?_) he rfl
  · exact ⟨G, z, m0, _, Fx, mr, sr, hl, kk.mv Stp.refl fun x1 m1 G1 v1 H1 p1 s1 r1 b1 => ⟨v1, G1, m1, x1, rfl, r1, s1, b1, p1⟩⟩
  · subst ev
    cases rx with
    | cons r1 rr => cases rr; exact O pins s2 σ H H2 G G2 m2 xt v _ P Fx Q I2 r2 st vx r1 h kk
end
end AM
set_option maxHeartbeats 4000000
namespace AM
open PySem PySem.Spec PyProof.Rows L2 Eb
/-! ## partition and split at one sign -/
def partT (l : List Nat) (c : Nat) : List (List Nat) := if c ∈ l then [l.takeWhile (· != c), [c], (l.dropWhile (· != c)).drop 1] else [l, [], []]
theorem part_eq (l : List Nat) (c : Nat) : [(Txt.partition (tx l) (tx [c])).1, (Txt.partition (tx l) (tx [c])).2.1, (Txt.partition (tx l) (tx [c])).2.2] = (partT l c).map tx := by
  have ec : tx [c] = ⟨#[c]⟩ := rfl
  have el : (tx l).cps.toList = l := tx_list l
  rw [ec]
  unfold Txt.partition partT
  rcases StrLaws.occ_head (tx l) ⟨#[c]⟩ 1 (Nat.le_refl 1) with ⟨h0, hn⟩ | ⟨i, r, h0, hi, hn⟩
  · have hf : c ∉ l := fun hm => by
      rw [← el] at hm
      obtain ⟨j, hj⟩ := List.getElem?_of_mem hm
      exact hn j ((StrLaws.subAt_one (tx l) c j).mpr hj)
    rw [h0, if_neg hf]
    rfl
  · have hm := (StrLaws.subAt_one (tx l) c i).mp hi
    rw [el] at hm
    have hd : l.dropWhile (· != c) = l.drop i := by
      have := dropWhile_at hm fun k hk e => hn k hk ((StrLaws.subAt_one (tx l) c k).mpr (by rw [el]; exact e))
      rw [this]
      have hi' : i < l.length := (List.getElem?_eq_some_iff.mp hm).1
      rw [List.drop_eq_getElem_cons hi', (List.getElem?_eq_some_iff.mp hm).2]
    have ht : l.takeWhile (· != c) = l.take i := by
      have h1 := List.takeWhile_append_dropWhile (p := (· != c)) (l := l)
      rw [hd] at h1
      exact List.append_cancel_right (h1.trans (List.take_append_drop i l).symm)
    rw [h0, if_pos (List.mem_of_getElem? hm), hd, ht]
    have e1 : Builtin.Str.strSub (tx l) 0 i = tx (l.take i) := by
      rw [← tx_of (Builtin.Str.strSub (tx l) 0 i), StrLaws.strSub_toList, el]
      rw [List.drop_zero, Nat.sub_zero]
    have e2 : Builtin.Str.strSub (tx l) (i + 1) (tx l).length = tx ((l.drop i).drop 1) := by
      rw [← tx_of (Builtin.Str.strSub (tx l) (i + 1) (tx l).length), StrLaws.strSub_toList, el, List.drop_drop, tx_len, List.take_of_length_le (by simp)]
    show [Builtin.Str.strSub (tx l) 0 i, _, Builtin.Str.strSub (tx l) (i + 1) (tx l).length] = _
    rw [e1, e2]
    rfl
theorem partT_at {A B : List Nat} {c : Nat} (h : c ∉ A) : partT (A ++ c :: B) c = [A, [c], B] := by
  unfold partT
  rw [if_pos (by simp)]
  have h1 : (A ++ c :: B).takeWhile (· != c) = A := by
    rw [List.takeWhile_append_of_pos (fun x hx => by simp; rintro rfl; exact h hx), List.takeWhile_cons_of_neg (by simp), List.append_nil]
  have h2 : (A ++ c :: B).dropWhile (· != c) = c :: B := by
    rw [List.dropWhile_append_of_pos (fun x hx => by simp; rintro rfl; exact h hx), List.dropWhile_cons_of_neg (by simp)]
  rw [h1, h2]
  rfl
def splitC (l : List Nat) (c : Nat) : List (List Nat) := (Txt.split (tx l) (tx [c])).map fun z => z.cps.toList
theorem splitC_tx (l : List Nat) (c : Nat) : (splitC l c).map tx = Txt.split (tx l) (tx [c]) := by
  unfold splitC
  rw [List.map_map]
  exact (List.map_congr_left fun z _ => tx_of z).trans (List.map_id _)
theorem splitC_free {l : List Nat} {c : Nat} : ∀ p ∈ splitC l c, c ∉ p := fun p hp => by
  unfold splitC at hp
  obtain ⟨z, hz, rfl⟩ := List.mem_map.mp hp
  exact StrLaws.split_free (tx l) c z hz
theorem splitC_ne {l : List Nat} {c : Nat} : splitC l c ≠ [] := fun e => by
  have h := split_len (tx l) c
  have h2 : (Txt.split (tx l) ⟨#[c]⟩).length = 0 := by
    have : (splitC l c).length = 0 := by rw [e]; rfl
    unfold splitC at this
    rw [List.length_map] at this
    exact this
  rw [h2] at h
  have hc : ∀ l : List Nat, (0 : Int) ≤ cnt c l := fun l => by
    induction l with
    | nil => exact Int.le_refl _
    | cons a l ih => rw [cnt_cons]; split <;> omega
  have := hc (tx l).cps.toList
  omega
theorem splitC_join (l : List Nat) (c : Nat) : joinT [c] (splitC l c) = l := by
  have h := StrLaws.join_split (tx l) (tx [c])
  rw [← splitC_tx, ← txt_join, tx_join] at h
  exact tx_inj h
theorem join_uniq {c : Nat} : ∀ {ps qs : List (List Nat)}, ps ≠ [] → qs ≠ [] → (∀ p ∈ ps, c ∉ p) → (∀ p ∈ qs, c ∉ p) → joinT [c] ps = joinT [c] qs → ps = qs
  | [], _, h, _, _, _, _ => absurd rfl h
  | _, [], _, h, _, _, _ => absurd rfl h
  | [p], [q], _, _, _, _, e => by simpa [joinT] using e
  | [p], q :: q2 :: r, _, _, hp, _, e => by
    have e : p = q ++ [c] ++ joinT [c] (q2 :: r) := e
    exact absurd (by rw [e]; simp) (hp p (by simp))
  | p :: p2 :: r, [q], _, _, _, hq, e => by
    have e : p ++ [c] ++ joinT [c] (p2 :: r) = q := e
    exact absurd (by rw [← e]; simp) (hq q (by simp))
  | p :: p2 :: r, q :: q2 :: s, _, _, hp, hq, e => by
    have e : p ++ [c] ++ joinT [c] (p2 :: r) = q ++ [c] ++ joinT [c] (q2 :: s) := e
    have hp0 := hp p (by simp)
    have hq0 := hq q (by simp)
    have k1 := partT_at (A := p) (B := joinT [c] (p2 :: r)) hp0
    have k2 := partT_at (A := q) (B := joinT [c] (q2 :: s)) hq0
    rw [List.append_assoc, List.append_assoc] at e
    have e' : p ++ c :: joinT [c] (p2 :: r) = q ++ c :: joinT [c] (q2 :: s) := e
    rw [e', k2] at k1
    have e1 : q = p ∧ joinT [c] (q2 :: s) = joinT [c] (p2 :: r) := by simpa using k1
    rw [e1.1, join_uniq (ps := p2 :: r) (qs := q2 :: s) (by simp) (by simp) (fun x hx => hp x (List.mem_cons_of_mem _ hx)) (fun x hx => hq x (List.mem_cons_of_mem _ hx)) e1.2.symm]
theorem join_lines {c : Nat} : ∀ ls : List (List Nat), joinT [c] (ls ++ [[]]) = (ls.map (· ++ [c])).flatten
  | [] => rfl
  | [l] => by simp [joinT]
  | l :: m :: r => by
    have ih := join_lines (c := c) (m :: r)
    have e : joinT [c] (l :: m :: r ++ [[]]) = l ++ [c] ++ joinT [c] (m :: r ++ [[]]) := rfl
    rw [e, ih]
    simp
theorem splitC_lines {c : Nat} {ls : List (List Nat)} (h : ∀ l ∈ ls, c ∉ l) : splitC ((ls.map (· ++ [c])).flatten) c = ls ++ [[]] := by
  refine join_uniq (c := c) splitC_ne (by simp) splitC_free (fun p hp => ?_) (by rw [splitC_join, join_lines])
  rcases List.mem_append.mp hp with z | z
  · exact h p z
  · cases List.mem_singleton.mp z; simp
/-! ### the rules -/
@[simp] def partA : T → List T → Mem → PX → Prop := fun x xs m P => match x, xs with
  | .str l, [.str [c]] => P (.tup ((partT l c).map T.str)) m
  | _, _ => False
@[simp] def splitA : T → List T → Mem → PX → Prop := fun x xs m P => match x, xs with
  | .str l, [.str [c]] => l.length + 2 ≤ sizeLine ∧ (splitC l c).length ≤ sizeLine ∧ P (.lst ((splitC l c).map T.str)) m
  | _, _ => False
section
variable {Γ : Gm} {G : Gh} {H : Hp}
theorem vrs_txts {ls : List (List Nat)} (h : ∀ l ∈ ls, SOk l) : VRs Γ G H (ls.map T.str) (ls.map fun l => V.str (tx l)) := by
  induction ls with
  | nil => exact vrs_nil.mpr rfl
  | cons l ls ih => exact vrs_cons.mpr ⟨_, _, rfl, vr_str.mpr ⟨rfl, h l List.mem_cons_self⟩, ih fun x hx => h x (List.mem_cons_of_mem _ hx)⟩
theorem sok_sub {l x : List Nat} (h : SOk l) (hl : x.length ≤ l.length) (hm : ∀ c ∈ x, c ∈ l) : SOk x := ⟨Nat.le_trans hl h.len, fun c hc => h.ok c (hm c hc)⟩
theorem partT_sok {l : List Nat} {c : Nat} (h : SOk l) : ∀ x ∈ partT l c, SOk x := by
  intro x hx
  unfold partT at hx
  split at hx
  · rename_i hc
    simp only [List.mem_cons, List.not_mem_nil, or_false] at hx
    rcases hx with rfl | rfl | rfl
    · exact sok_sub h (List.takeWhile_sublist _).length_le fun y hy => (List.takeWhile_sublist _).subset hy
    · exact sok_sub h (List.length_pos_of_mem hc) fun y hy => by cases List.mem_singleton.mp hy; exact hc
    · exact sok_sub h (((List.drop_sublist _ _).trans (List.dropWhile_sublist _)).length_le) fun y hy => ((List.drop_sublist _ _).trans (List.dropWhile_sublist _)).subset hy
  · simp only [List.mem_cons, List.not_mem_nil, or_false] at hx
    rcases hx with rfl | rfl | rfl
    · exact h
    · exact sok_sub h (by simp) (by simp)
    · exact sok_sub h (by simp) (by simp)
theorem sim_part : SimM Γ "str" (fun x xs H Q => ∃ a b, x = .str a ∧ xs = [.str b] ∧ (b.length == 0) = false ∧ a.length ≤ sizeLine ∧
    ∀ p, H p = none → Q (.ref p) (upd H p (.tup [.str (Txt.partition a b).1, .str (Txt.partition a b).2.1, .str (Txt.partition a b).2.2]))) partA := by
  intro G m H x xs v vs P Q r hx hxs h k
  unfold partA at h
  split at h
  · rename_i l c
    obtain ⟨w, rfl, hy⟩ := vbs1 hxs
    obtain ⟨rfl, ok⟩ := vb_str hx
    obtain ⟨rfl, _⟩ := vb_str hy
    refine ⟨tx l, tx [c], rfl, rfl, rfl, by rw [tx_len]; exact ok.len, fun p np => ?_⟩
    have e : [V.str (Txt.partition (tx l) (tx [c])).1, V.str (Txt.partition (tx l) (tx [c])).2.1, V.str (Txt.partition (tx l) (tx [c])).2.2] = (partT l c).map fun l => V.str (tx l) := by
      have := congrArg (List.map V.str) (part_eq l c)
      rw [List.map_map] at this
      exact this
    rw [e]
    obtain ⟨s, r', w⟩ := new_tup r (vrs_txts (partT_sok ok)) np
    exact k _ m G _ _ h s r' w
  · exact h.elim
theorem splitC_mem {c : Nat} : ∀ (ps : List (List Nat)), ∀ p ∈ ps, p.length ≤ (joinT [c] ps).length ∧ ∀ x ∈ p, x ∈ joinT [c] ps
  | [], p, h => by cases h
  | [q], p, h => by cases List.mem_singleton.mp h; exact ⟨Nat.le_refl _, fun x hx => hx⟩
  | q :: r :: s, p, h => by
    have e : joinT [c] (q :: r :: s) = q ++ [c] ++ joinT [c] (r :: s) := rfl
    rw [e]
    rcases List.mem_cons.mp h with rfl | h
    · exact ⟨by simp, fun x hx => by simp [hx]⟩
    · obtain ⟨h1, h2⟩ := splitC_mem (c := c) (r :: s) p h
      exact ⟨by simp; omega, fun x hx => by simp [h2 x hx]⟩
theorem splitC_sok {l : List Nat} {c : Nat} (h : SOk l) : ∀ x ∈ splitC l c, SOk x := fun x hx => by
  obtain ⟨h1, h2⟩ := splitC_mem (c := c) _ x hx
  rw [splitC_join] at h1 h2
  exact sok_sub h h1 h2
theorem sim_split : SimM Γ "str" (fun x xs H Q => ∃ a b, x = .str a ∧ xs = [.str b] ∧ (b.length == 0) = false ∧ a.length + 2 ≤ sizeLine ∧ rNewStrs (Txt.split a b) H Q) splitA := by
  intro G m H x xs v vs P Q r hx hxs h k
  unfold splitA at h
  split at h
  · rename_i l c
    obtain ⟨w, rfl, hy⟩ := vbs1 hxs
    obtain ⟨rfl, ok⟩ := vb_str hx
    obtain ⟨rfl, _⟩ := vb_str hy
    refine ⟨tx l, tx [c], rfl, rfl, rfl, by rw [tx_len]; exact h.1, fun p np => ?_⟩
    have e : (Txt.split (tx l) (tx [c])).map V.str = (splitC l c).map fun l => V.str (tx l) := by
      rw [← splitC_tx, List.map_map]
      rfl
    rw [e]
    obtain ⟨s, r', w⟩ := new_lst r (vrs_txts (splitC_sok ok)) np
    exact k _ m G _ _ h.2.2 s r' w
  · exact h.elim
end
end AM
set_option maxHeartbeats 4000000
namespace AM
open PySem PySem.Spec PyProof.Rows L2 Eb
section
variable {c : Cl} {X : Cx} {e o : Expr} {es : List Expr} {a b : AE} {pos : Pos}
/-! ## o["k"].replace(y, str(e)) -/
@[simp] def aReplK (a : AE) (n : List Nat) (y : List Nat) (b : AE) : AE := fun z m P F => a z m (fun x m1 => ixA x (.str n) m1 fun t m2 => match t with
  | .str l => b z m2 (fun w m3 => match w with
    | .int i => i.natAbs.log2 < 1920 ∧ (y ≠ strI i ∧ l.length + (l.length + 1) * (strI i).length ≤ 16777216) ∧ P (.str (RpL y (strI i) l)) m3
    | _ => False) F
  | _ => False) F
theorem se_repl_cStr {y n : String} {ci cj : Nat} {q0 q1 q2 q3 q4 apos : Pos} (hu : X.A.units + 1 < cLine) (hb : X.mg "str" = none) (hg : Gl X "str") (ho : SB c X o a) (he : SB c X e b) (hy : 1 ≤ (q y).length) (hn : SOk (q n))
    (hst : starEach [.Constant (.str (PySem.Str.ofString y)) cj q1, .Call (.Name "str" q2) [e] [] q3] X.env = [(false, eval (.Constant (.str (PySem.Str.ofString y)) cj q1) X.env), (false, eval (.Call (.Name "str" q2) [e] [] q3) X.env)] := by rfl)
    (na : starEach [e] X.env = (false, eval e X.env) :: starEach [] X.env := by rfl)
    (hbase : attributeBase (.Subscript o (.Constant (.str (PySem.Str.ofString n)) ci q0) q4) "replace" X.env (eval (.Subscript o (.Constant (.str (PySem.Str.ofString n)) ci q0) q4) X.env) = eval (.Subscript o (.Constant (.str (PySem.Str.ofString n)) ci q0) q4) X.env := by rfl) (hline : (apos.endLine == pos.line) = true := by rfl) :
    SE c X (.Call (.Attribute (.Subscript o (.Constant (.str (PySem.Str.ofString n)) ci q0) q4) "replace" apos) [.Constant (.str (PySem.Str.ofString y)) cj q1, .Call (.Name "str" q2) [e] [] q3] [] pos) (aReplK a (q n) (q y) b) := by
  refine ⟨fun pins s σ H Q I hq => ?_⟩
  obtain ⟨G, z, m, P, F, mr, sr, h, k⟩ := hq
  refine PySem.Call_method2 hbase hst hline (Subscript_ (thn (ho.run pins s σ H (fun v H1 => ((rIxS v (.str (PySem.Str.ofString n)) H1 (fun w H2 => ∃ l, w = .str (tx l) ∧ rOf (VB (go X c.cls)) (go X c.cls) c.W b σ H2 fun u H3 => ∃ i : Int, u = .int i ∧ i.natAbs.log2 < 1920 ∧ (q y ≠ strI i ∧ l.length + (l.length + 1) * (strI i).length ≤ 16777216) ∧ Q (.str (tx (RpL (q y) (strI i) l))) H3) ∨ rIxD v (.str (PySem.Str.ofString n)) H1 (fun w H2 => ∃ l, w = .str (tx l) ∧ rOf (VB (go X c.cls)) (go X c.cls) c.W b σ H2 fun u H3 => ∃ i : Int, u = .int i ∧ i.natAbs.log2 < 1920 ∧ (q y ≠ strI i ∧ l.length + (l.length + 1) * (strI i).length ≤ 16777216) ∧ Q (.str (tx (RpL (q y) (strI i) l))) H3)) ∨ (rIxL X.K v (.str (PySem.Str.ofString n)) H1 (fun w H2 => ∃ l, w = .str (tx l) ∧ rOf (VB (go X c.cls)) (go X c.cls) c.W b σ H2 fun u H3 => ∃ i : Int, u = .int i ∧ i.natAbs.log2 < 1920 ∧ (q y ≠ strI i ∧ l.length + (l.length + 1) * (strI i).length ≤ 16777216) ∧ Q (.str (tx (RpL (q y) (strI i) l))) H3) ∨ rIxT X.K v (.str (PySem.Str.ofString n)) H1 (fun w H2 => ∃ l, w = .str (tx l) ∧ rOf (VB (go X c.cls)) (go X c.cls) c.W b σ H2 fun u H3 => ∃ i : Int, u = .int i ∧ i.natAbs.log2 < 1920 ∧ (q y ≠ strI i ∧ l.length + (l.length + 1) * (strI i).length ≤ 16777216) ∧ Q (.str (tx (RpL (q y) (strI i) l))) H3)))) I ?_) fun ov s1 ⟨x, H1, I1, rx, q1⟩ => ?_))
  · refine ⟨G, z, m, _, F, mr, sr, h, k.mv Stp.refl fun x1 m1 G1 v1 H1 p1 s1 r1 b1 => ?_⟩
    refine sim_ix (Γ := go X c.cls) G1 m1 H1 x1 (.str (q n)) v1 (.str (PySem.Str.ofString n)) _ _ r1 b1 (.inl (vr_str.mpr ⟨by rw [tx_q], hn⟩)) p1 fun t m2 G2 w H2 p2 s2 r2 v2 => ?_
    split at p2
    · rename_i l
      obtain ⟨rfl, ok⟩ := vr_str.mp v2
      refine ⟨l, rfl, G2, z, m2, _, F, r2, sr.step mr.nd (s1.trans s2), p2, k.mv (s1.trans s2) fun w3 m3 G3 v3 H3 p3 s3 r3 b3 => ?_⟩
      split at p3
      · rename_i i
        cases vb_int b3
        refine ⟨i, rfl, p3.1, p3.2.1, k.ok _ m3 G3 _ H3 p3.2.2 ((s1.trans s2).trans s3) r3 (vr_str.mpr ⟨rfl, rpl_sok hy ok (strI_sok p3.1) p3.2.1.2⟩)⟩
      · exact p3.elim
    · exact p2.elim
  · refine Calls.Constant_str ?_
    have I2 := I1.tok (s1.toks + 1)
    have key := ix_A hu o (.Constant (.str (PySem.Str.ofString n)) ci q0) pins { s1 with toks := s1.toks + 1 } σ H1 x (.str (PySem.Str.ofString n)) ov (.str (PySem.Str.ofString n) s1.toks) _ I2 rx ⟨_, rfl⟩ q1 rfl
    refine wpAny_mono (PySem.wpAny_toks key) (fun v s3 q => ?_) fun _ _ z => z.2
    obtain ⟨hk, w, H2, I3, rw', l, ew, qq⟩ := q
    have hk : s1.toks + 1 ≤ s3.toks := hk
    subst ew
    obtain ⟨tx', rfl⟩ := rw'
    refine ⟨"str", _, PySem.F.plainAttrs_str, PySem.F.slot_str_replace, PySem.F.type_str_replace, typeIs_str _ _ _, (fun _ e => nomatch e), Calls.callWith_builtin rfl (Calls.evalArgs_plain (Calls.spliced_cons ?_))⟩
    refine Calls.Constant_str (Calls.spliced_cons ?_)
    have I4 := I3.tok (s3.toks + 1)
    refine Call_ (ld_blt (u := .type "str") I4 hg hb (by decide +kernel) (PyProof.Rows.callWith_type1 (args_cons (wpAny_mono (PySem.wpAny_toks (he.run pins _ σ H2 _ I4 qq)) (fun u s5 hq => args_nil ?_) fun _ _ z => z.2) na) na))
    obtain ⟨hk5, u', H3, I5, ru, i, ei, hi, ⟨hne, hlen⟩, q'⟩ := hq
    subst ei
    obtain ⟨ti, rfl⟩ := ru
    refine PySem.P.str_of_int hi (Calls.spliced_nil ?_)
    have hk5 : s3.toks + 1 ≤ s5.toks := hk5
    refine PySem.SC.replace (by show s3.toks ≠ 0; omega) (by show s5.toks ≠ 0; omega) (by show s3.toks ≠ s5.toks; omega) ?_ ?_ fun t' k' => ⟨.str (tx (RpL (AM.q y) (strI i) l)), H3, I5.tok k', ⟨t', ?_⟩, q'⟩
    · refine beq_eq_false_iff_ne.mpr fun z => hne (tx_inj ?_)
      rw [tx_q, z]; unfold strI; rw [tx_q]
    · rw [tx_len]
      have : (PySem.Str.ofString (toString i)).length = (strI i).length := by rw [← tx_q, tx_len]; rfl
      rw [this]; exact hlen
    · have h := @PySem.StrLaws.replace_list (tx l) (PySem.Str.ofString y) (PySem.Str.ofString (toString i)) (by rw [← tx_q, tx_len]; exact hy)
      have e : Txt.replace (tx l) (PySem.Str.ofString y) (PySem.Str.ofString (toString i)) = tx (RpL (q y) (strI i) l) := by
        have e2 : (Txt.replace (tx l) (PySem.Str.ofString y) (PySem.Str.ofString (toString i))).cps = (tx (RpL (q y) (strI i) l)).cps := by
          apply Array.toList_inj.mp
          rw [h, ← tx_q, ← tx_q]
          rfl
        exact congrArg (fun a => (⟨a⟩ : Str)) e2
      exact congrArg (fun a => Value.str a t') e
end
end AM
set_option maxHeartbeats 4000000
namespace AM
open PySem PySem.Spec PyProof.Rows L2 Eb
/-! ## == and != of dicts (texts, truths, lists of texts, dicts) -/
def EqKs (R : T → T → Bool → Prop) (ls : List (TK × T)) : List (TK × T) → Bool → Prop
  | [], r => r = true
  | (k, v) :: ks, r => (valT ls k = none ∧ r = false) ∨ ∃ v' e r', valT ls k = some v' ∧ R v v' e ∧ EqKs R ls ks r' ∧ r = (e && r')
def EqK : Nat → T → T → Bool → Prop
  | 0, _, _, _ => False
  | n + 1, t, t', b => (∃ x y, t = .str x ∧ t' = .str y ∧ b = decide (x = y)) ∨ (∃ x y, t = .bl x ∧ t' = .bl y ∧ b = (x == y)) ∨ (∃ xs ys : List (List Nat), t = .lst (xs.map T.str) ∧ t' = .lst (ys.map T.str) ∧ b = decide (xs = ys)) ∨
    ∃ ks ls r, t = .dct ks ∧ t' = .dct ls ∧ (ks.map (·.1)).Nodup ∧ EqKs (EqK n) ls ks r ∧ b = (ks.length == ls.length && r)
@[simp] def eqK : A2 := fun x y m P => ∃ ks ls r, x = .dct ks ∧ y = .dct ls ∧ EqKs (EqK 4) ls ks r ∧ P (.bl (ks.length == ls.length && r)) m
@[simp] def neK : A2 := fun x y m P => ∃ ks ls r, x = .dct ks ∧ y = .dct ls ∧ EqKs (EqK 4) ls ks r ∧ P (.bl (!(ks.length == ls.length && r))) m
section
variable {Γ : Gm} {G : Gh} {H : Hp} {v u : V}
theorem vr_strs {xs : List (List Nat)} (h : VR Γ G H (.lst (xs.map T.str)) v) : ∃ a, v = .ref a ∧ H a = some (.lst (xs.map fun l => V.str (tx l))) := by
  obtain ⟨a, us, rfl, _, h1, h2⟩ := vr_lst.mp h
  have e := VRs.strs h2
  rw [e] at h1
  exact ⟨a, rfl, h1⟩
theorem Rd.inj {a : Addr} {us ws : List (Key × V)} (h1 : Rd H a (.dK us)) (h2 : Rd H a (.dK ws)) : us = ws := by
  rcases h1 with h1 | ⟨o, h1⟩ <;> rcases h2 with h2 | ⟨o', h2⟩ <;> rw [h1] at h2 <;> cases h2 <;> rfl
theorem valT_mem : ∀ {ks : List (TK × T)}, (ks.map (·.1)).Nodup → ∀ p ∈ ks, valT ks p.1 = some p.2
  | [], _, p, h => by cases h
  | (k, v) :: ks, nd, p, h => by
    rw [List.map_cons, List.nodup_cons] at nd
    rcases List.mem_cons.mp h with rfl | h
    · simp [valT]
    · have ne : k ≠ p.1 := fun e => nd.1 (List.mem_map.mpr ⟨p, h, e.symm⟩)
      have := valT_mem nd.2 p h
      unfold valT at this ⊢
      rw [List.find?_cons, decide_eq_false ne]
      exact this
theorem EqK.same : ∀ {n : Nat} {t t' : T} {v : V} {b : Bool}, EqK n t t' b → VR Γ G H t v → VR Γ G H t' v → b = true
  | 0, _, _, _, _, h, _, _ => h.elim
  | n + 1, t, t', v, b, h, h1, h2 => by
    rcases h with ⟨x, y, rfl, rfl, rfl⟩ | ⟨x, y, rfl, rfl, rfl⟩ | ⟨xs, ys, rfl, rfl, rfl⟩ | ⟨ks, ls, r, rfl, rfl, nd, hk, rfl⟩
    · obtain ⟨e1, _⟩ := vr_str.mp h1
      obtain ⟨e2, _⟩ := vr_str.mp h2
      rw [e1] at e2
      exact decide_eq_true (tx_inj (V.str.inj e2))
    · have e1 := vr_bl.mp h1
      have e2 := vr_bl.mp h2
      rw [e1] at e2
      cases e2
      simp
    · obtain ⟨a, rfl, e1⟩ := vr_strs h1
      obtain ⟨a', ea, e2⟩ := vr_strs h2
      cases ea
      rw [e1] at e2
      refine decide_eq_true ?_
      have e3 : (xs.map fun l => V.str (tx l)) = ys.map fun l => V.str (tx l) := (HO.lst.inj (Option.some.inj e2))
      have inj : ∀ (xs ys : List (List Nat)), (xs.map fun l => V.str (tx l)) = (ys.map fun l => V.str (tx l)) → xs = ys := by
        intro xs
        induction xs with
        | nil => intro ys e; cases ys with | nil => rfl | cons y ys => cases e
        | cons x xs ih =>
          intro ys e
          cases ys with
          | nil => cases e
          | cons y ys =>
            rw [List.map_cons, List.map_cons] at e
            have := List.cons.inj e
            rw [tx_inj (V.str.inj this.1), ih ys this.2]
      exact inj _ _ (by simpa using e3)
    · obtain ⟨a, us, rfl, _, r1, d1⟩ := vr_dct.mp h1
      obtain ⟨a', ws, ea, _, r2, d2⟩ := vr_dct.mp h2
      cases ea
      cases Rd.inj r1 r2
      have hl : ks.length = ls.length := by rw [← d1.length, ← d2.length]
      have key : ∀ (qs : List (TK × T)) (r : Bool), (∀ p ∈ qs, p ∈ ks) → EqKs (EqK n) ls qs r → r = true := by
        intro qs
        induction qs with
        | nil => intro r _ h; exact h
        | cons p qs ih =>
          obtain ⟨k, v⟩ := p
          intro r hm h
          have m1 := valT_mem nd (k, v) (hm _ List.mem_cons_self)
          have v1 := d1.val (k := k)
          rw [m1] at v1
          obtain ⟨w, ew, hw⟩ := v1
          have v2 := d2.val (k := k)
          rcases h with ⟨e, rfl⟩ | ⟨v', e, r', e1, hR, hr, rfl⟩
          · rw [e] at v2
            have v2 : valV us (tk k) = none := v2
            rw [ew] at v2
            cases v2
          · rw [e1] at v2
            obtain ⟨w', ew', hw'⟩ := v2
            rw [ew] at ew'
            cases ew'
            rw [hR.same hw hw', ih r' (fun p hp => hm p (List.mem_cons_of_mem _ hp)) hr]
            rfl
      rw [key ks r (fun _ h => h) hk, hl]
      simp
end
section
variable {X : Cx} {pins : List (Addr × Obj)} {σ : L2.St} {H : Hp} {s : Shared} {cls : List String} {G : Gh} {m : Mem}
theorem alike_strs : ∀ (xs ys : List (List Nat)), PySem.W.alikeAll (toDs (xs.map T.str)) (toDs (ys.map T.str)) = true
  | [], ys => by simp [toDs, PySem.W.alikeAll]
  | x :: xs, [] => by simp [toDs, PySem.W.alikeAll]
  | x :: xs, y :: ys => by simp [toDs, toD, PySem.W.alikeAll, PySem.W.alike, alike_strs xs ys]
/-- the run of == within -/
theorem eqK_run (I : Inv X pins σ H s) (mr : MR (go X cls) G m H) : ∀ (n : Nat) (A : Around), A.units + n + 64 < cLine → ∀ (t t' : T) (v u : V) (vv uu : Value) (b : Bool), EqK n t t' b → VR (go X cls) G H t v → VR (go X cls) G H t' u → RelV v vv → RelV u uu → SeqAt.EqP X.prog X.w A s vv uu b
  | 0, _, _, _, _, _, _, _, _, _, h, _, _, _, _ => h.elim
  | n + 1, A, hu, t, t', v, u, vv, uu, b, h, vt, vt', rv, ru => by
    have dat : ∀ {d d' : PyData}, Dp X.K H v d → Dp X.K H u d' → PySem.W.alike d d' = true → d.depth ≤ 20 → SeqAt.EqP X.prog X.w A s vv uu (PyData.eqv d d') := by
      intro d d' h1 h2 ha hd
      obtain ⟨as, r1⟩ := Dp.reads I d v vv h1 rv
      obtain ⟨bs, r2⟩ := Dp.reads I d' u uu h2 ru
      exact (PySem.W.eqAt_alike d d' A s vv uu as bs r1 r2 ha (by omega)).eqP
    have shs : ∀ (l : List (List Nat)) n, Shps n (l.map T.str) := fun l n => by
      induction l with
      | nil => simp [Shps]
      | cons x l ih => simp [Shps, ih]
    rcases h with ⟨x, y, rfl, rfl, rfl⟩ | ⟨x, y, rfl, rfl, rfl⟩ | ⟨xs, ys, rfl, rfl, rfl⟩ | ⟨ks, ls, r, rfl, rfl, nd, hk, rfl⟩
    · have h1 : Shp 20 (nrm m (.str x)) := by simp [nrm]
      have h2 : Shp 20 (nrm m (.str y)) := by simp [nrm]
      obtain ⟨a1, _, a3⟩ := dp_nrm mr (.inl vt) h1
      obtain ⟨b1, _, _⟩ := dp_nrm mr (.inl vt') h2
      have k := dat a1 b1 (by simp [nrm, toD, PySem.W.alike]) a3
      rw [eqv_toD h1 h2] at k
      simpa [nrm, eqT] using k
    · have h1 : Shp 20 (nrm m (.bl x)) := by simp [nrm]
      have h2 : Shp 20 (nrm m (.bl y)) := by simp [nrm]
      obtain ⟨a1, _, a3⟩ := dp_nrm mr (.inl vt) h1
      obtain ⟨b1, _, _⟩ := dp_nrm mr (.inl vt') h2
      have k := dat a1 b1 (by simp [nrm, toD, PySem.W.alike]) a3
      rw [eqv_toD h1 h2] at k
      simpa [nrm, eqT] using k
    · have h1 : Shp 20 (nrm m (.lst (xs.map T.str))) := by simp [nrm, shs]
      have h2 : Shp 20 (nrm m (.lst (ys.map T.str))) := by simp [nrm, shs]
      obtain ⟨a1, _, a3⟩ := dp_nrm mr (.inl vt) h1
      obtain ⟨b1, _, _⟩ := dp_nrm mr (.inl vt') h2
      have k := dat a1 b1 (by simp [nrm, toD, PySem.W.alike, alike_strs]) a3
      rw [eqv_toD h1 h2] at k
      have e : eqT (nrm m (.lst (xs.map T.str))) (nrm m (.lst (ys.map T.str))) = decide (xs = ys) := by
        have g : ∀ (xs ys : List (List Nat)), eqTs (xs.map T.str) (ys.map T.str) = decide (xs = ys) := by
          intro xs
          induction xs with
          | nil => intro ys; cases ys <;> simp [eqTs]
          | cons x xs ih => intro ys; cases ys with
            | nil => simp [eqTs]
            | cons y ys => simp [eqTs, eqT, ih]
        simp [nrm, eqT, g]
      rw [e] at k
      exact k
    · obtain ⟨a, us, rfl, _, r1, d1⟩ := vr_dct.mp vt
      obtain ⟨a', ws, rfl, _, r2, d2⟩ := vr_dct.mp vt'
      cases (show vv = Value.ref a from rv)
      cases (show uu = Value.ref a' from ru)
      by_cases ea : a = a'
      · subst ea
        have hb : (ks.length == ls.length && r) = true := EqK.same (n := n + 1) (.inr (.inr (.inr ⟨ks, ls, r, rfl, rfl, nd, hk, rfl⟩))) vt vt'
        rw [hb]
        exact (SeqAt.EqAt.same _).eqP
      · obtain ⟨_, ya, va, ra, da⟩ := dk_rd I.hok r1
        obtain ⟨_, yb, vb, rb, db⟩ := dk_rd I.hok r2
        refine SeqAt.eqP_refs ea fun E Q q => ?_
        have hits : ∀ (qs : List (TK × T)) (xs : List (Key × V)) (ys : List (Key × Value)) (r : Bool), VRd (go X cls) G H qs xs → KV xs ys → EqKs (EqK n) ls qs r → PySem.W.KeqHitsP X.prog X.w A.in1 s vb ys r := by
          intro qs
          induction qs with
          | nil =>
            intro xs ys r hx hy hr
            cases vrd_nil.mp hx
            cases (show r = true from hr)
            unfold KV at hy
            cases hy
            exact .nil
          | cons p qs ih =>
            obtain ⟨k, t0⟩ := p
            intro xs ys r hx hy hr
            obtain ⟨v0, xr, rfl, hv0, hxr⟩ := vrd_cons.mp hx
            unfold KV at hy
            cases hy with
            | @cons p' q' ps' qs' h0 hrest =>
              obtain ⟨h01, h02⟩ := h0
              obtain ⟨key, val⟩ := q'
              have h01 : tk k = key := h01
              subst h01
              have v2 := d2.val (k := k)
              have rel := rb.val (tk k)
              rcases hr with ⟨e, rfl⟩ | ⟨v', e, r', e1, hR, hr', rfl⟩
              · rw [e] at v2
                have v2 : valV ws (tk k) = none := v2
                rw [v2] at rel
                refine .miss ?_
                cases hva : valueAt vb (tk k) with
                | none => rfl
                | some y => rw [hva] at rel; exact rel.elim
              · rw [e1] at v2
                obtain ⟨w', ew', hw'⟩ := v2
                rw [ew'] at rel
                obtain ⟨y, hy', ry⟩ := rel.some_of
                exact .hit hy' (eqK_run I mr n A.in1 (by show A.units + 1 + n + 64 < cLine; omega) t0 v' v0 w' val y e hR hv0 hw' h02 ry) (ih xr qs' r' hxr hrest hr')
        have hl1 : va.length = ks.length := by rw [← ra.length, d1.length]
        have hl2 : vb.length = ls.length := by rw [← rb.length, d2.length]
        refine PySem.W.rcP_dicts (knd := mixKind X.prog X.w) (r := r) ya yb da db (by omega) (fun _ => hits ks us va r d1 ra hk) E Q ?_
        rw [hl1, hl2]
        exact q
theorem rcP_ne {prog : Program} {w : World} {K : Type} [DecidableEq K] {knd : KeyKind prog w K} {A : Around} {s : Shared} {a b : Addr} {ka kb : List (K × Value)} {r : Bool} (ha : (a == sysModules) = false) (hb : (b == sysModules) = false)
    (da : s.heap.DictOf knd a ka) (db : s.heap.DictOf knd b kb) (hu : A.units < cLine) (hits : ka.length = kb.length → PySem.W.KeqHitsP prog w A.in1 s kb ka r) (E Q : Value → Shared → Prop) (h : Q (.bool (!(ka.length == kb.length && r))) s) : wpAny (model prog w) A (compareOp .NotEq (.ref a) (.ref b)) Q E s := by
  refine wpAny_richCompare_same_room (op := .NotEq) da.typeIs db.typeIs PySem.F.slot_dict_ne (wpAny_call_entry PySem.F.slot_dict_ne da.typeIs PySem.F.entry_dict_ne ?_ (PySem.F.args_dict_ne_2 _ _)) hu
  show wpAny _ _ (Builtin.Dict.dictSlotArgs "__ne__" ⟨[.ref a, .ref b], []⟩ >>= _) _ _ s
  refine wpAny_bind ?_
  unfold Builtin.Dict.dictSlotArgs
  refine wpAny_bind (wpAny_notOrdered_dict da.typeIs ?_)
  show wpAny _ _ (pure (Value.ref a, Value.ref b)) _ _ s
  refine wpAny_pure ?_
  refine wpAny_bind (wpAny_isInstance (T := "dict") db.typeIs PySem.F.sub_dict_dict ?_)
  simp only [Bool.not_true, Bool.false_eq_true, if_false]
  refine wpAny_bind (wpAny_pure (wpAny_bind (wpAny_pure ?_)))
  refine wpAny_bind (PySem.W.samePairsP ha hb da db hits ?_)
  refine wpAny_pure ⟨_, rfl, ?_, ?_⟩
  · exact fun x => nomatch x
  · simpa using h
theorem opA_eqK {c : Cl} {k : Nat} (hr : Room k X.A) : OpA c X (compareOp .Eq) (fun x y m P _ => eqK x y m P) := by
  intro pins s σ H0 H G0 G m x y v u v' u' P Fx Q I mr st vx vy rx ry ⟨ks, ls, r, e1, e2, hk, p⟩ kk
  subst e1 e2
  have hu : X.A.units + 80 < cLine := by have := hr.un; omega
  obtain ⟨a, us, rfl, _, r1, d1⟩ := vr_dct.mp vx
  obtain ⟨a', ws, rfl, _, r2, d2⟩ := vr_dct.mp vy
  cases (show v' = Value.ref a from rx)
  cases (show u' = Value.ref a' from ry)
  obtain ⟨_, ya, va, ra, da⟩ := dk_rd I.hok r1
  obtain ⟨_, yb, vb, rb, db⟩ := dk_rd I.hok r2
  have hits : ∀ (qs : List (TK × T)) (xs : List (Key × V)) (ys : List (Key × Value)) (r : Bool), VRd (go X c.cls) G H qs xs → KV xs ys → EqKs (EqK 4) ls qs r → PySem.W.KeqHitsP X.prog X.w X.A.in1 s vb ys r := by
    intro qs
    induction qs with
    | nil =>
      intro xs ys r hx hy hr
      cases vrd_nil.mp hx
      cases (show r = true from hr)
      unfold KV at hy
      cases hy
      exact .nil
    | cons p qs ih =>
      obtain ⟨k, t0⟩ := p
      intro xs ys r hx hy hr
      obtain ⟨v0, xr, rfl, hv0, hxr⟩ := vrd_cons.mp hx
      unfold KV at hy
      cases hy with
      | @cons p' q' ps' qs' h0 hrest =>
        obtain ⟨h01, h02⟩ := h0
        obtain ⟨key, val⟩ := q'
        have h01 : tk k = key := h01
        subst h01
        have v2 := d2.val (k := k)
        have rel := rb.val (tk k)
        rcases hr with ⟨e, rfl⟩ | ⟨v', e, r', e1, hR, hr', rfl⟩
        · rw [e] at v2
          have v2 : valV ws (tk k) = none := v2
          rw [v2] at rel
          refine .miss ?_
          cases hva : valueAt vb (tk k) with
          | none => rfl
          | some y => rw [hva] at rel; exact rel.elim
        · rw [e1] at v2
          obtain ⟨w', ew', hw'⟩ := v2
          rw [ew'] at rel
          obtain ⟨y, hy', ry⟩ := rel.some_of
          exact .hit hy' (eqK_run I mr 4 X.A.in1 (by show X.A.units + 1 + 4 + 64 < cLine; omega) t0 v' v0 w' val y e hR hv0 hw' h02 ry) (ih xr qs' r' hxr hrest hr')
  have hl1 : va.length = ks.length := by rw [← ra.length, d1.length]
  have hl2 : vb.length = ls.length := by rw [← rb.length, d2.length]
  refine PySem.W.rcP_dicts (knd := mixKind X.prog X.w) (r := r) ya yb da db (by omega) (fun _ => hits ks us va r d1 ra hk) X.xe (EP X pins σ Q) ?_
  rw [hl1, hl2]
  exact ⟨.bl _, H, I, rfl, kk.ok _ m G _ H p st mr (vr_bl.mpr rfl)⟩
theorem opA_neK {c : Cl} {k : Nat} (hr : Room k X.A) : OpA c X (compareOp .NotEq) (fun x y m P _ => neK x y m P) := by
  intro pins s σ H0 H G0 G m x y v u v' u' P Fx Q I mr st vx vy rx ry ⟨ks, ls, r, e1, e2, hk, p⟩ kk
  subst e1 e2
  have hu : X.A.units + 80 < cLine := by have := hr.un; omega
  obtain ⟨a, us, rfl, _, r1, d1⟩ := vr_dct.mp vx
  obtain ⟨a', ws, rfl, _, r2, d2⟩ := vr_dct.mp vy
  cases (show v' = Value.ref a from rx)
  cases (show u' = Value.ref a' from ry)
  obtain ⟨_, ya, va, ra, da⟩ := dk_rd I.hok r1
  obtain ⟨_, yb, vb, rb, db⟩ := dk_rd I.hok r2
  have hits : ∀ (qs : List (TK × T)) (xs : List (Key × V)) (ys : List (Key × Value)) (r : Bool), VRd (go X c.cls) G H qs xs → KV xs ys → EqKs (EqK 4) ls qs r → PySem.W.KeqHitsP X.prog X.w X.A.in1 s vb ys r := by
    intro qs
    induction qs with
    | nil =>
      intro xs ys r hx hy hr
      cases vrd_nil.mp hx
      cases (show r = true from hr)
      unfold KV at hy
      cases hy
      exact .nil
    | cons p qs ih =>
      obtain ⟨k, t0⟩ := p
      intro xs ys r hx hy hr
      obtain ⟨v0, xr, rfl, hv0, hxr⟩ := vrd_cons.mp hx
      unfold KV at hy
      cases hy with
      | @cons p' q' ps' qs' h0 hrest =>
        obtain ⟨h01, h02⟩ := h0
        obtain ⟨key, val⟩ := q'
        have h01 : tk k = key := h01
        subst h01
        have v2 := d2.val (k := k)
        have rel := rb.val (tk k)
        rcases hr with ⟨e, rfl⟩ | ⟨v', e, r', e1, hR, hr', rfl⟩
        · rw [e] at v2
          have v2 : valV ws (tk k) = none := v2
          rw [v2] at rel
          refine .miss ?_
          cases hva : valueAt vb (tk k) with
          | none => rfl
          | some y => rw [hva] at rel; exact rel.elim
        · rw [e1] at v2
          obtain ⟨w', ew', hw'⟩ := v2
          rw [ew'] at rel
          obtain ⟨y, hy', ry⟩ := rel.some_of
          exact .hit hy' (eqK_run I mr 4 X.A.in1 (by show X.A.units + 1 + 4 + 64 < cLine; omega) t0 v' v0 w' val y e hR hv0 hw' h02 ry) (ih xr qs' r' hxr hrest hr')
  have hl1 : va.length = ks.length := by rw [← ra.length, d1.length]
  have hl2 : vb.length = ls.length := by rw [← rb.length, d2.length]
  refine rcP_ne (knd := mixKind X.prog X.w) (r := r) ya yb da db (by omega) (fun _ => hits ks us va r d1 ra hk) X.xe (EP X pins σ Q) ?_
  rw [hl1, hl2]
  exact ⟨.bl _, H, I, rfl, kk.ok _ m G _ H p st mr (vr_bl.mpr rfl)⟩
end
end AM
set_option maxHeartbeats 4000000
namespace AM
open PySem PySem.Spec PyProof.Rows L2 Eb
section
variable {c : Cl} {X : Cx} {e o : Expr} {es : List Expr} {a b : AE} {pos : Pos}
/-! ## o["k"].replace("y", "z") -/
@[simp] def aReplL (a : AE) (n y w : List Nat) : AE := fun z m P F => a z m (fun x m1 => ixA x (.str n) m1 fun t m2 => match t with
  | .str l => (y ≠ w ∧ l.length + (l.length + 1) * w.length ≤ 16777216) ∧ P (.str (RpL y w l)) m2
  | _ => False) F
theorem se_repl_lit {y n zz : String} {ci cj ck : Nat} {q0 q1 q2 q4 apos : Pos} (hu : X.A.units + 1 < cLine) (ho : SB c X o a) (hy : 1 ≤ (q y).length) (hn : SOk (q n)) (hz : SOk (q zz))
    (hst : starEach [.Constant (.str (PySem.Str.ofString y)) cj q1, .Constant (.str (PySem.Str.ofString zz)) ck q2] X.env = [(false, eval (.Constant (.str (PySem.Str.ofString y)) cj q1) X.env), (false, eval (.Constant (.str (PySem.Str.ofString zz)) ck q2) X.env)] := by rfl)
    (hbase : attributeBase (.Subscript o (.Constant (.str (PySem.Str.ofString n)) ci q0) q4) "replace" X.env (eval (.Subscript o (.Constant (.str (PySem.Str.ofString n)) ci q0) q4) X.env) = eval (.Subscript o (.Constant (.str (PySem.Str.ofString n)) ci q0) q4) X.env := by rfl) (hline : (apos.endLine == pos.line) = true := by rfl) :
    SE c X (.Call (.Attribute (.Subscript o (.Constant (.str (PySem.Str.ofString n)) ci q0) q4) "replace" apos) [.Constant (.str (PySem.Str.ofString y)) cj q1, .Constant (.str (PySem.Str.ofString zz)) ck q2] [] pos) (aReplL a (q n) (q y) (q zz)) := by
  refine ⟨fun pins s σ H Q I hq => ?_⟩
  obtain ⟨G, z, m, P, F, mr, sr, h, k⟩ := hq
  refine PySem.Call_method2 hbase hst hline (Subscript_ (thn (ho.run pins s σ H (fun v H1 => ((rIxS v (.str (PySem.Str.ofString n)) H1 (fun w H2 => ∃ l, w = .str (tx l) ∧ (q y ≠ q zz ∧ l.length + (l.length + 1) * (q zz).length ≤ 16777216) ∧ Q (.str (tx (RpL (q y) (q zz) l))) H2) ∨ rIxD v (.str (PySem.Str.ofString n)) H1 (fun w H2 => ∃ l, w = .str (tx l) ∧ (q y ≠ q zz ∧ l.length + (l.length + 1) * (q zz).length ≤ 16777216) ∧ Q (.str (tx (RpL (q y) (q zz) l))) H2)) ∨ (rIxL X.K v (.str (PySem.Str.ofString n)) H1 (fun w H2 => ∃ l, w = .str (tx l) ∧ (q y ≠ q zz ∧ l.length + (l.length + 1) * (q zz).length ≤ 16777216) ∧ Q (.str (tx (RpL (q y) (q zz) l))) H2) ∨ rIxT X.K v (.str (PySem.Str.ofString n)) H1 (fun w H2 => ∃ l, w = .str (tx l) ∧ (q y ≠ q zz ∧ l.length + (l.length + 1) * (q zz).length ≤ 16777216) ∧ Q (.str (tx (RpL (q y) (q zz) l))) H2)))) I ?_) fun ov s1 ⟨x, H1, I1, rx, q1⟩ => ?_))
  · refine ⟨G, z, m, _, F, mr, sr, h, k.mv Stp.refl fun x1 m1 G1 v1 H1 p1 s1 r1 b1 => ?_⟩
    refine sim_ix (Γ := go X c.cls) G1 m1 H1 x1 (.str (q n)) v1 (.str (PySem.Str.ofString n)) _ _ r1 b1 (.inl (vr_str.mpr ⟨by rw [tx_q], hn⟩)) p1 fun t m2 G2 w H2 p2 s2 r2 v2 => ?_
    split at p2
    · rename_i l
      obtain ⟨rfl, ok⟩ := vr_str.mp v2
      exact ⟨l, rfl, p2.1, k.ok _ m2 G2 _ H2 p2.2 (s1.trans s2) r2 (vr_str.mpr ⟨rfl, rpl_sok hy ok hz p2.1.2⟩)⟩
    · exact p2.elim
  · refine Calls.Constant_str ?_
    have I2 := I1.tok (s1.toks + 1)
    have key := ix_A hu o (.Constant (.str (PySem.Str.ofString n)) ci q0) pins { s1 with toks := s1.toks + 1 } σ H1 x (.str (PySem.Str.ofString n)) ov (.str (PySem.Str.ofString n) s1.toks) _ I2 rx ⟨_, rfl⟩ q1 rfl
    refine wpAny_mono (PySem.wpAny_toks key) (fun v s3 q => ?_) fun _ _ z => z.2
    obtain ⟨hk, w, H2, I3, rw', l, ew, ⟨hne, hlen⟩, q'⟩ := q
    have hk : s1.toks + 1 ≤ s3.toks := hk
    subst ew
    obtain ⟨tx', rfl⟩ := rw'
    refine ⟨"str", _, PySem.F.plainAttrs_str, PySem.F.slot_str_replace, PySem.F.type_str_replace, typeIs_str _ _ _, (fun _ e => nomatch e), Calls.callWith_builtin rfl (Calls.evalArgs_plain (Calls.spliced_cons ?_))⟩
    refine Calls.Constant_str (Calls.spliced_cons ?_)
    refine Calls.Constant_str (Calls.spliced_nil ?_)
    have I5 := (I3.tok (s3.toks + 1)).tok (s3.toks + 1 + 1)
    refine PySem.SC.replace (by show s3.toks ≠ 0; omega) (by show s3.toks + 1 ≠ 0; omega) (by show s3.toks ≠ s3.toks + 1; omega) ?_ ?_ fun t' k' => ⟨.str (tx (RpL (AM.q y) (AM.q zz) l)), H2, I5.tok k', ⟨t', ?_⟩, q'⟩
    · refine beq_eq_false_iff_ne.mpr fun z => hne (tx_inj ?_)
      rw [tx_q, tx_q, z]
    · rw [tx_len, ← tx_q zz, tx_len]; exact hlen
    · have h := @PySem.StrLaws.replace_list (tx l) (PySem.Str.ofString y) (PySem.Str.ofString zz) (by rw [← tx_q, tx_len]; exact hy)
      have e : Txt.replace (tx l) (PySem.Str.ofString y) (PySem.Str.ofString zz) = tx (RpL (q y) (q zz) l) := by
        have e2 : (Txt.replace (tx l) (PySem.Str.ofString y) (PySem.Str.ofString zz)).cps = (tx (RpL (q y) (q zz) l)).cps := by
          apply Array.toList_inj.mp
          rw [h, ← tx_q, ← tx_q]
          rfl
        exact congrArg (fun a => (⟨a⟩ : Str)) e2
      exact congrArg (fun a => Value.str a t') e
end
end AM
set_option maxHeartbeats 4000000
namespace AM
open PySem PySem.Spec PyProof.Rows L2 Eb
/-! ## displays of dicts, dict(d) -/
abbrev ADp := AG0 (List (TK × T))
@[simp] def dpNil : ADp := fun _ m P _ => P [] m
@[simp] def dpCons (k v : AE) (r : ADp) : ADp := fun z m P F => k z m (fun kt m1 => match keyT kt with
  | some kk => v z m1 (fun t m2 => r z m2 (fun kvs m3 => P ((kk, t) :: kvs) m3) F) F
  | none => False) F
@[simp] def aDisp (r : ADp) : AE := fun z m P _ => r z m (fun kvs m1 => kvs.length ≤ 15 ∧ (kvs.map (·.1)).Nodup ∧ P (.dct kvs) m1) (fun _ _ => False)
@[simp] def dictF : AL := fun xs m P => match xs with | [x] => (match asD m x with | some kvs => P (.dct kvs) m | none => False) | _ => False
def SDp (c : Cl) (X : Cx) (pos : Pos) (ks : List (Option Expr)) (vs : List Expr) (a : ADp) : Prop := ∃ trs, PPs X pos ks vs trs ∧ ∀ σ H Q, rOf (fun G H kvs ps => ∃ us, VRd (go X c.cls) G H kvs us ∧ ps = us.map (fun kv => (kV kv.1, kv.2))) (go X c.cls) c.W a σ H Q → tPairs trs σ H Q
section
variable {c : Cl} {X : Cx} {pos : Pos} {k v : Expr} {ks : List (Option Expr)} {vs : List Expr} {a b : AE} {r : ADp} {Γ : Gm}
theorem sdp_nil : SDp c X pos [] [] dpNil := ⟨[], pps_nil, fun σ H Q ⟨G, z, m, P, F, mr, sr, h, kk⟩ => kk.ok [] m G [] H h Stp.refl mr ⟨[], vrd_nil.mpr rfl, rfl⟩⟩
theorem VRd.go' {G G' : Gh} {H H' : Hp} (s : Stp G H G' H') {ts : List (TK × T)} {us : List (Key × V)} (h : VRd Γ G H ts us) : VRd Γ G' H' ts us := h.go s.go
theorem sdp_cons (hk : SE c X k a) (hv : SE c X v b) (hr : SDp c X pos ks vs r) : SDp c X pos (some k :: ks) (v :: vs) (dpCons a b r) := by
  obtain ⟨trs, h1, h2⟩ := hr
  refine ⟨_, pps_cons hk hv h1, fun σ H Q ⟨G, z, m, P, F, mr, sr, h, kk⟩ => ?_⟩
  refine ⟨G, z, m, _, F, mr, sr, h, kk.mv Stp.refl fun kt m1 G1 v1 H1 p1 s1 r1 b1 => ?_⟩
  split at p1
  · rename_i kk' ek
    cases key_of' (.inl b1) ek
    refine ⟨G1, z, m1, _, F, r1, sr.step mr.nd s1, p1, kk.mv s1 fun t m2 G2 v2 H2 p2 s2 r2 b2 => ?_⟩
    refine h2 σ H2 _ ⟨G2, z, m2, _, F, r2, sr.step mr.nd (s1.trans s2), p2, kk.mv (s1.trans s2) fun kvs m3 G3 ps H3 p3 s3 r3 ⟨us, hu, ep⟩ => ?_⟩
    exact kk.ok _ m3 G3 _ H3 p3 ((s1.trans s2).trans s3) r3 ⟨(tk kk', v2) :: us, vrd_cons.mpr ⟨v2, us, rfl, s3.vr b2, hu⟩, by rw [ep]; rfl⟩
  · exact p1.elim
theorem merge_nd : ∀ (more kvs : List (Key × V)), ((kvs ++ more).map (·.1)).Nodup → mergeK kvs more = kvs ++ more
  | [], kvs, _ => by simp [mergeK]
  | p :: more, kvs, nd => by
    have hp : ∀ q ∈ kvs, q.1 ≠ p.1 := fun q hq e => by
      rw [List.map_append, List.map_cons, List.nodup_append] at nd
      exact nd.2.2 q.1 (List.mem_map.mpr ⟨q, hq, rfl⟩) p.1 List.mem_cons_self e
    have e : putK kvs p.1 p.2 = kvs ++ [p] := by
      unfold putK
      rw [if_neg (by
        intro h
        obtain ⟨q, hq, e⟩ := List.any_eq_true.mp h
        exact hp q hq (of_decide_eq_true e))]
    show mergeK (putK kvs p.1 p.2) more = _
    rw [e, merge_nd more (kvs ++ [p]) (by simpa using nd)]
    simp
theorem vrd_keys {G : Gh} {H : Hp} : ∀ {ts : List (TK × T)} {us : List (Key × V)}, VRd Γ G H ts us → us.map (·.1) = ts.map fun x => tk x.1
  | [], us, h => by rw [vrd_nil.mp h]; rfl
  | (k, t) :: ts, us, h => by
    obtain ⟨v, r, rfl, _, h2⟩ := vrd_cons.mp h
    rw [List.map_cons, List.map_cons, vrd_keys h2]
theorem sf_disp (hd : SDp c X pos ks vs r) (hall : ks.all (·.isSome) = true) (hl : ks.length = vs.length) (h0 : ks ≠ []) (h15 : ks.length ≤ 15) : SF c X (.Dict ks vs pos) (aDisp r) := by
  obtain ⟨trs, h1, h2⟩ := hd
  refine pe_weak (pe_disp h1 hall hl h0 h15) fun σ H Q ⟨G, z, m, P, F, mr, sr, h, kk⟩ => ?_
  intro p np
  have srp : SR (go X c.cls) ⟨G.rho, G.ow, p :: G.up⟩ (upd H p (.dK [])) z σ := by
    refine sr.sstep (up_go mr np) fun j b hb => ⟨hb, fun o e => ?_⟩
    rw [upd_ne (ne_of_none e np)]; exact e
  refine h2 σ _ _ ⟨⟨G.rho, G.ow, p :: G.up⟩, z, m, _, _, up_mr mr np, srp, h, ⟨fun kvs m' G' ps H2 ⟨q1, q2, q3⟩ s r ⟨us, hu, ep⟩ => ?_, fun x m' G' H' cc d z => z.elim⟩⟩
  have dup : p ∈ G'.up := by rw [s.up]; exact List.mem_cons_self
  have pr : p ∉ G'.rho := fun y => ((nd3 r.nd).1 y).2 dup
  have pr0 : p ∉ (⟨G.rho, G.ow, p :: G.up⟩ : Gh).rho := fun y => mr.live p (hot_iff.mpr (.inl y)) np
  have hp2 : H2 p = some (.dK []) := s.fr p _ pr0 upd_same
  have go6 : Go G' H2 G' (upd H2 p (.dK us)) := ⟨List.prefix_refl _, fun b o n h => ⟨by rw [upd_ne (show b ≠ p from fun y => n (hot_iff.mpr (.inr (.inr (by rw [y]; exact dup)))))]; exact h, n⟩⟩
  have hnd : ((([] : List (Key × V)) ++ us).map (fun x => x.1)).Nodup := by
    rw [List.nil_append, vrd_keys hu, show (kvs.map fun x => tk x.1) = (kvs.map (fun x => x.1)).map tk by rw [List.map_map]; rfl]
    exact List.Pairwise.map tk (fun a b h e => h (tk_inj e)) q2
  refine ⟨hp2, us, ep, by rw [hu.length]; exact q1, ?_⟩
  rw [merge_nd us [] hnd, List.nil_append]
  refine kk.ok (.dct kvs) m' G' p _ q3 ?_ np ?_ ⟨us, upd_same, hu.go go6⟩
  · have s0 : Stp ⟨G.rho, G.ow, p :: G.up⟩ H G' H2 := (up_stp np).trans s
    exact ⟨s0.ow, s0.up, s0.pre, fun b o n h => by rw [upd_ne (ne_of_none h np)]; exact s0.fr b o n h, s0.nw⟩
  · exact ⟨r.len, fun n cl b e1 e2 => (r.cell n cl b e1 e2).go go6 (upd_ne fun y => pr (y ▸ List.mem_of_getElem? e2)), r.nd, fun b y => by
      by_cases hb : b = p
      · rw [hb, upd_same]; simp
      · rw [upd_ne hb]; exact r.live b y⟩
theorem sim_dictF : SimLF Γ (fun xs H Q => ∃ (a : Addr) (kvs : List (Key × V)), xs = [.ref a] ∧ Rd H a (.dK kvs) ∧ ∀ p, H p = none → Q (.ref p) (upd H p (.dK kvs))) dictF := by
  intro G m H x v P Q r hx h k
  unfold dictF at h
  split at h
  · obtain ⟨v, rfl, h1⟩ := vbs1 hx
    split at h
    · rename_i kvs e
      obtain ⟨a, us, rfl, e1, e2⟩ := rdD r h1 e
      exact ⟨a, us, rfl, e1, fun p np => k.2 _ _ p h e2 np⟩
    · exact h.elim
  · exact h.elim
end
end AM
set_option maxHeartbeats 4000000
namespace AM
open PySem PySem.Spec PyProof.Rows L2 Eb
/-! ## x, y = fresh, e: the first is owned -/
@[simp] def sParO (i j : Nat) (a b : AE) : AS := fun D z m => a z m (fun t m1 => b z m1 (fun u m2 => D.nx ((z.set i (some (.o t))).set j (some (.v u))) m2) (fun _ _ => False)) (D.ex z)
section
variable {c : Cl} {X : Cx} {e e2 : Expr} {a b : AE} {st : Stmt}
theorem s_parO {i jj : Nat} (mk : ∀ {t1 t2 : TE}, PE X e t1 → PE X e2 t2 → PS X st (tPar i jj (tCons t1 (tCons t2 tNil)))) (he : SF c X e a) (hb : SE c X e2 b) : S1 c X st (sParO i jj a b) := ps_weak (mk he hb) fun E σ H ⟨G, z, m, D, mr, sr, h, k⟩ =>
  ⟨G, z, m, _, _, mr, sr, h, ⟨fun t m0 Ga p Ha pa sa np ra rta => by
    have sra : SR (go X c.cls) Ga Ha z σ := by
      refine sr.sstep ⟨sa.pre, fun x o n hx => ?_⟩ fun j q hq => ⟨by rw [sa.ow]; exact hq, fun o e => sa.fr q o (fun y => ((nd3 mr.nd).1 y).1 (own_mem hq)) e⟩
      refine ⟨sa.fr x o (fun y => n (hot_iff.mpr (.inl y))) hx, fun y => ?_⟩
      rw [hot_iff, sa.ow, sa.up] at y
      rcases y with y | y | y
      · rcases sa.nw x y with y | y
        · exact n (hot_iff.mpr (.inl y))
        · rw [hx] at y; cases y
      · exact n (hot_iff.mpr (.inr (.inl y)))
      · rcases List.mem_cons.mp y with rfl | y
        · rw [hx] at np; cases np
        · exact n (hot_iff.mpr (.inr (.inr y)))
    refine ⟨Ga, z, m0, _, _, ra, sra, pa, ⟨fun u0 m1 G1 w H1 p1 s2 r1 vu => ?_, fun _ _ _ _ _ _ z => z.elim⟩⟩
    have dup : p ∈ Ga.up := by rw [sa.up]; exact List.mem_cons_self
    have rt : RootR (go X c.cls) G1 H1 p t := rta.go s2.go fun o e => s2.fr p o (fun y => ((nd3 ra.nd).1 y).2 dup) e
    have s1 := sa.trans s2
    refine ⟨.ref p, w, rfl, ?_⟩
    have eu : G1.up = p :: G.up := s1.up
    have eo : G1.ow = G.ow := s1.ow
    let G2 : Gh := ⟨G1.rho, (i, p) :: G1.ow, G.up⟩
    have hh : ∀ a, G2.hot a ↔ G1.hot a := fun a => by
      rw [hot_iff, hot_iff, eu]
      show a ∈ G1.rho ∨ a ∈ p :: G1.ow.map (·.2) ∨ a ∈ G.up ↔ _
      simp only [List.mem_cons]
      constructor
      · rintro (h | (h | h) | h)
        · exact .inl h
        · exact .inr (.inr (.inl h))
        · exact .inr (.inl h)
        · exact .inr (.inr (.inr h))
      · rintro (h | h | h | h)
        · exact .inl h
        · exact .inr (.inl (.inr h))
        · exact .inr (.inl (.inl h))
        · exact .inr (.inr h)
    have g12 : Go G1 H1 G2 H1 := Go.less (Γ := go X c.cls) rfl fun a z => (hh a).mp z
    have mr2 : MR (go X c.cls) G2 m1 H1 := ⟨r1.len, fun n cl a e1 e2 => (r1.cell n cl a e1 e2).go' g12, by
      have n := r1.nd
      unfold Gh.all at n ⊢
      rw [eu] at n
      show (G1.rho ++ p :: G1.ow.map (·.2) ++ G.up).Nodup
      refine (List.Perm.nodup_iff ?_).mp n
      simp only [List.append_assoc, List.cons_append]
      exact List.Perm.append_left _ List.perm_middle, fun a z => r1.live a ((hh a).mp z)⟩
    have ss : SStp G H G2 H1 := ⟨rfl, s1.pre, fun a o n1 n2 h => s1.fr a o n1 h, fun a z => by
      have z := (hh a).mp z
      rw [hot_iff] at z ⊢
      rw [eu, eo] at z
      rcases z with z | z | z
      · exact (s1.nw a z).imp .inl id
      · exact .inl (.inr (.inl z))
      · rcases List.mem_cons.mp z with z | z
        · exact .inr (by rw [z]; exact np)
        · exact .inl (.inr (.inr z))⟩
    have own_ne : ∀ j q, (j, q) ∈ G.ow → ∀ o, H q = some o → H1 q = some o := fun j q hq o e => s1.fr q o (fun y => ((nd3 mr.nd).1 y).1 (own_mem hq)) e
    have sr2 : SR (go X c.cls) G2 H1 z σ := sr.sstep ss.go fun j q hq => ⟨List.mem_cons_of_mem _ (by rw [eo]; exact hq), own_ne j q hq⟩
    refine k.nx _ m1 G2 _ H1 p1 ss mr2 (SR.set (v := w) (t := u0) (σ := σ.set i (some (.ref p))) (z := z.set i (some (.o t))) ⟨by simp [sr.len], fun j u e => ?_, fun j u e => ?_⟩ (vu.go g12) jj)
    · by_cases hc : i = j
      · subst hc
        have hi : i < z.length := by
          have := (List.getElem?_eq_some_iff.mp e).1
          simpa using this
        rw [List.getElem?_set_self hi] at e
        cases e
      · rw [List.getElem?_set_ne hc] at e ⊢
        exact sr2.val j u e
    · by_cases hc : i = j
      · subst hc
        have hi : i < z.length := by
          have := (List.getElem?_eq_some_iff.mp e).1
          simpa using this
        rw [List.getElem?_set_self hi] at e
        cases e
        refine ⟨p, List.mem_cons_self, List.getElem?_set_self (by rw [← sr.len]; exact hi), ?_⟩
        cases t with
        | lst ts => obtain ⟨us, h1, h2⟩ := rt; exact ⟨us, h1, h2.go g12⟩
        | dct ts => obtain ⟨us, h1, h2⟩ := rt; exact ⟨us, h1, h2.go g12⟩
        | _ => exact rt.elim
      · rw [List.getElem?_set_ne hc] at e ⊢
        exact sr2.own j u e, fun x m' G' H' cc d h1 h2 h3 h4 => k.ex z x m' G' σ H' cc d h1 h2.ss h3 (sr.step mr.nd h2) h4⟩⟩
end
end AM
set_option maxHeartbeats 4000000
namespace AM
open PySem PySem.Spec PyProof.Rows L2 Eb
/-! ## defs whose value is new: the caller may own it -/
def spF (Γ : Gm) (n : Nat) (F : AF) (vs : List V) (H : Hp) (Q : VK) : Prop := vs.length = n ∧ ∃ G ts m P Fx, MR Γ G m H ∧ G.ow = [] ∧ VRs Γ G H ts vs ∧ F ts m P Fx ∧
  (∀ t m' G' p H', P t m' → Stp ⟨G.rho, G.ow, p :: G.up⟩ H G' H' → H p = none → MR Γ G' m' H' → RootR Γ G' H' p t → Q (.ref p) H') ∧ (∀ x m' G' H' c d, Fx x m' → Stp G H G' H' → MR Γ G' m' H' → XR Γ G' H' x c d → False)
structure FaF (gd : Bool) (P : Program) (w : World) (K : PySem.W.Frag) (mg : Str → Option Value) (base : Heap) (cls : List String) (k : Nat) (f : Addr) (fd : FuncData) (ps : List Str) (F : AF) : Prop where
  run : ∀ (A : Around) (outer : List Env) (s : Shared) (H : Hp) (args : Args) (us : List Value) (vs : List V) (Q : VK) (E : XK), (gd = true → A.guards = some []) → Room k A → Env0 P w K mg base A outer s H → BindsTo s fd args (ps.zip us) → Vals vs us →
    spF ⟨K, cls⟩ ps.length F vs H Q → codeAny (model P w) A (.call (.ref f) args) (L2.CR C8.CX0 outer P w H s Q E) s
structure ContR (Γ : Gm) (G : Gh) (H : Hp) (D : EA) (E : Ends) : Prop where
  rt : ∀ t m1 m' G1 G' p H1 H', D.rt t m' → SStp G H G1 H1 → MR Γ G1 m1 H1 → Stp ⟨G1.rho, G1.ow, p :: G1.up⟩ H1 G' H' → H1 p = none → MR Γ G' m' H' → RootR Γ G' H' p t → E.rt (.ref p) H'
  ex : ∀ z x m' G' H' c d, D.ex z x m' → SStp G H G' H' → MR Γ G' m' H' → XR Γ G' H' x c d → False
def sRF (Γ : Gm) (a : AS) : TS := fun E σ H => ∃ G z m D, MR Γ G m H ∧ SR Γ G H z σ ∧ a D z m ∧ ContR Γ G H D E
/-- a statement that neither returns nor breaks off -/
def Thru (a : AS) : Prop := ∀ D D' z m, D.nx = D'.nx → D.ex = D'.ex → a D z m → a D' z m
theorem thru_par {i j : Nat} {l : AA} : Thru (sPar i j l) := fun D D' z m h1 h2 h => by
  unfold sPar at h ⊢
  rw [← h1, ← h2]; exact h
section
variable {Γ : Gm} {G G' G1 : Gh} {H H' H1 : Hp} {m m' m1 : Mem} {X : Cx} {cls : List String} {st : Stmt} {e : Expr} {a : AS} {b : AE} {pos : Pos}
theorem s2_fresh (h1 : S1 ⟨cls, noW⟩ X st a) (h2 : SF ⟨cls, noW⟩ X e b) (th : Thru a) : PSs X [st, .Return (some e) pos] (sRF (go X cls) (sSeq a (sRet b))) :=
  pss_weak (pss_cons h1 (pss_one (ps_ret h2))) fun E σ H ⟨G, z, m, D, mr, sr, h, k⟩ =>
    ⟨G, z, m, { nx := sRet b D, rt := fun _ _ => False, bk := fun _ _ => False, ct := fun _ _ => False, ex := D.ex }, mr, sr, th { D with nx := sRet b D } _ z m rfl rfl h, ⟨fun z1 m1 G1 σ1 H1 p1 s1 r1 sr1 =>
      ⟨G1, z1, m1, D.rt, D.ex z1, r1, sr1, p1, ⟨fun t m' G' p H' pt s np r rt => k.rt t m1 m' G1 G' p H1 H' pt s1 r1 s np r rt, fun x m' G' H' c d h1 h2 h3 h4 => (k.ex z1 x m' G' H' c d h1 (s1.trans h2.ss mr.nd r1.nd) h3 h4).elim⟩⟩,
      fun _ _ _ _ _ h => h.elim, fun _ _ _ _ _ h => h.elim, fun _ _ _ _ _ h => h.elim, fun z x m' G' σ H' c d h1 h2 h3 _ h4 => (k.ex z x m' G' H' c d h1 h2 h3 h4).elim⟩⟩
theorem end_new {p : Addr} (mr : MR Γ G m H) (hz : G.ow = []) (s1 : SStp G H G1 H1) (r1 : MR Γ G1 m1 H1) (s2 : Stp ⟨G1.rho, G1.ow, p :: G1.up⟩ H1 G' H') (np : H1 p = none) (r : MR Γ G' m' H') :
    Stp ⟨G.rho, G.ow, p :: G.up⟩ H ⟨G'.rho, [], G'.up⟩ H' ∧ MR Γ ⟨G'.rho, [], G'.up⟩ m' H' ∧ Go G' H' ⟨G'.rho, [], G'.up⟩ H' ∧ H p = none := by
  have hh : ∀ a, Gh.hot ⟨G'.rho, [], G'.up⟩ a → G'.hot a := fun a z => by
    rw [hot_iff] at z ⊢
    rcases z with z | z | z
    · exact .inl z
    · cases z
    · exact .inr (.inr z)
  have g : Go G' H' ⟨G'.rho, [], G'.up⟩ H' := Go.less (Γ := Γ) rfl hh
  have now : ∀ a, a ∉ G.ow.map (·.2) := fun a => by rw [hz]; simp
  have old : ∀ a, a ∈ G1.rho → a ∈ G.rho ∨ H a = none := fun a z => by
    rcases s1.nw a (hot_iff.mpr (.inl z)) with q | q
    · rw [hot_iff] at q
      rcases q with q | q | q
      · exact .inl q
      · exact (now a q).elim
      · rw [← s1.up] at q
        exact (((nd3 r1.nd).1 z).2 q).elim
    · exact .inr q
  have none0 : ∀ a, H1 a = none → a ∈ G.rho ∨ H a = none := fun a z => by
    by_cases hr : a ∈ G.rho
    · exact .inl hr
    · cases e : H a with
      | none => exact .inr rfl
      | some o => rw [s1.fr a o hr (now a) e] at z; cases z
  refine ⟨⟨hz.symm, by show G'.up = p :: G.up; rw [← s1.up]; exact s2.up, s1.pre.trans s2.pre, fun a o n h => ?_, fun a z => ?_⟩, ⟨r.len, fun n cl a e1 e2 => (r.cell n cl a e1 e2).go' g, ?_, fun a z => r.live a (hh a z)⟩, g, ?_⟩
  · refine s2.fr a o (fun z => ?_) (s1.fr a o n (now a) h)
    rcases old a z with q | q
    · exact n q
    · rw [q] at h; cases h
  · rcases s2.nw a z with q | q
    · exact old a q
    · exact none0 a q
  · have n := r.nd
    unfold Gh.all at n ⊢
    refine n.sublist ?_
    exact List.Sublist.append_right (List.Sublist.append_left (by simp) _) _
  · rcases none0 p np with q | q
    · have := r1.live p (hot_iff.mpr (.inl (s1.pre.subset q)))
      rw [np] at this
      simp at this
    · exact q
theorem body_new {Q : VK} {N : List Str} {vs : List V} (h : spF Γ vs.length (fB N.length a) vs H Q) : sRF Γ a { nx := fun _ H' => Q .non H', rt := Q } (L2.start N vs) H := by
  obtain ⟨_, G, ts, m, P, Fx, mr, ow, vr, hf, k1, k2⟩ := h
  refine ⟨G, _, m, _, mr, start_sr vr, hf, ⟨fun t m1 m' G1 G' p H1 H' pt s1 r1 s2 np r rt => ?_, fun z x m' G' H' c d p s r xr => ?_⟩⟩
  · obtain ⟨a1, a2, a3, a4⟩ := end_new mr ow s1 r1 s2 np r
    exact k1 t m' _ p H' pt a1 a4 a2 (RootR.go a3 (fun _ z => z) rt)
  · obtain ⟨s1, r1, g⟩ := end_off mr ow s r
    exact k2 x m' _ H' c d p s1 r1 (xr.go g)
end
section
variable {gd : Bool} {P : Program} {w : World} {K : PySem.W.Frag} {mg : Str → Option Value} {base : Heap} {cls : List String} {k : Nat} {f : Addr} {fd : FuncData} {ps N : List Str} {x qual : Str} {params : Arguments} {body : List Stmt} {scope : Scope} {dvs : List V} {kws : List (Str × V)} {a : AS}
def ByF (gd : Bool) (P : Program) (w : World) (K : PySem.W.Frag) (mg : Str → Option Value) (base : Heap) (cls : List String) (k : Nat) (f : Addr) (N : List Str) (qual : Str) (body : List Stmt) (scope : Scope) (a : AS) : Prop :=
  ∀ (cdv : Value) (A : Around) (outer : List Env) (s : Shared) (H : Hp) (E : XK) (X : Cx), X = (cxOf C8.CX0 P w K mg base N qual scope f cdv A outer s H E).nox → (gd = true → X.A.guards = some []) → Room k X.A →
    PSs (cxOf C8.CX0 P w K mg base N qual scope f cdv A outer s H E).nox body (sRF ⟨K, cls⟩ a)
theorem faF (F : FunD K x qual params body scope dvs kws f fd) (S : FnScope N ps scope) (hb : ByF gd P w K mg base cls k f N qual body scope a) : FaF gd P w K mg base cls (k + 1) f fd ps (fB N.length a) := by
  refine ⟨fun A outer s H args us vs Q E hg hr e0 hbd r hsp => ?_⟩
  obtain ⟨oc, od, dV, kV, doc, pm, an, cdv, ct, osl, rfl, lk, hcd, _, _⟩ := F.ex
  have hl : vs.length = ps.length := hsp.1
  have KX : K.In s.heap := e0.mod.kin.keeps fun b o e => (e0.bs b o e).1
  have lim : s.heap.NoLimit := e0.mod.nolimit.keeps fun b o e => (e0.bs b o e).1
  refine codeAny_call_function hr.depth (KX _ _ lk) rfl S.co S.gen rfl (PySem.W.codeRec_of KX hcd) (hbd _ _ _ _ ?_)
  refine wpAny_newFunctionEnv_cells S.kind (fun q hq => ?_) fun env he s1 x => ?_
  · obtain ⟨n, v⟩ := q
    rcases S.par n (List.of_mem_zip hq).1 with z | z
    · exact .inl z
    · exact .inr ⟨z, PySem.W.cellsFrom_some _ _ _ (.inl z)⟩
  · subst he
    refine ⟨lim.keeps x.toInCall.keep, codeAny_func ?_⟩
    have ht := hb cdv A outer s H E _ rfl hg (hr.deeper _)
    have I : Inv (cxOf C8.CX0 P w K mg base N qual scope f cdv A outer s H E) [] (L2.start N vs) H s1 := inv_start S hr.hd e0 hl r x
    have hq : sRF ⟨K, cls⟩ a { nx := fun _ H' => Q .non H', rt := Q } (L2.start N vs) H := body_new (by rw [hl]; exact hsp)
    refine wpAny_mono (PSs.nox ht |>.run [] s1 (L2.start N vs) H _ I hq) (fun fl s' hs => ?_) fun e s' hs => hs
    cases fl with
    | ret u => obtain ⟨v, σ', H', J, rv, q⟩ := hs; exact ⟨v, H', J.os, J.bare, J.base, J.hok, rv, q⟩
    | next => obtain ⟨σ', H', J, q⟩ := hs; exact ⟨V.non, H', J.os, J.bare, J.base, J.hok, rfl, q⟩
    | brk => obtain ⟨_, _, _, q⟩ := hs; exact False.elim q
    | cont => obtain ⟨_, _, _, q⟩ := hs; exact False.elim q
structure CalF (gd : Bool) (P : Program) (w : World) (K : PySem.W.Frag) (mg : Str → Option Value) (base : Heap) (cls : List String) (k : Nat) (x : Str) (n : Nat) (F : AF) : Prop where
  ex : ∃ (f : Addr) (fd : FuncData) (ps : List Str), FaF gd P w K mg base cls k f fd ps F ∧ ps.length = n ∧ mg x = some (.ref f) ∧ PySem.W.keepIn K (.ref f) = true ∧ Binds K fd ps []
theorem calF {n : Nat} (h : ∃ fd, FunD K x x params body scope [] [] f fd) (g : mg x = some (.ref f)) (S : FnScope N ps scope) (bd : Bd x x params body scope ps) (hn : ps.length = n) (hb : ByF gd P w K mg base cls k f N x body scope a) : CalF gd P w K mg base cls (k + 1) x n (fB N.length a) := by
  obtain ⟨fd, F⟩ := h
  exact ⟨f, fd, ps, faF F S hb, hn, g, F.kp, F.bindsN bd⟩
end
section
variable {gd : Bool} {c : Cl} {X : Cx} {k j n : Nat} {F : AF} {x : Str} {p pos : Pos} {e : Expr} {es : List Expr} {l : AA} {G : Gh}
theorem call_spF {Γ : Gm} {W : WX} {G1 : Gh} {H H1 : Hp} {σ : L2.St} {ts : List T} {vs : List V} {m1 : Mem} {P : PX} {Fx : FX} {Q : VK} {n : Nat} (hW : W = noW) (hn : vs.length = n) (k : ContF Γ W G H σ P Fx Q) (s1 : Stp G H G1 H1) (r1 : MR Γ G1 m1 H1) (v1 : VRs Γ G1 H1 ts vs) (h : F ts m1 P Fx) :
    spF Γ n F vs H1 Q := by
  let G0 : Gh := ⟨G1.rho, [], G1.ow.map (·.2) ++ G1.up⟩
  have ea : G0.all = G1.all := by simp [G0, Gh.all]
  have hh : ∀ a, G0.hot a ↔ G1.hot a := fun a => by unfold Gh.hot; rw [ea]
  have g : Go G1 H1 G0 H1 := Go.less (Γ := Γ) rfl fun a z => (hh a).mp z
  refine ⟨hn, G0, ts, m1, P, Fx, ⟨r1.len, fun n cl a e1 e2 => (r1.cell n cl a e1 e2).go' g, by rw [ea]; exact r1.nd, fun a z => r1.live a ((hh a).mp z)⟩, rfl, v1.go g, h, fun t m' G' p H' pt s np r rt => ?_, fun x m' G' H' cl d p s r xr => ?_⟩
  · have eo : G'.ow = [] := s.ow
    have eu : G'.up = p :: (G1.ow.map (·.2) ++ G1.up) := s.up
    have hb : ∀ a, Gh.hot ⟨G'.rho, G1.ow, p :: G1.up⟩ a ↔ G'.hot a := fun a => by
      rw [hot_iff, hot_iff, eo, eu]
      simp only [List.map_nil, List.not_mem_nil, List.mem_cons, List.mem_append, false_or]
      constructor
      · rintro (h | h | h | h)
        · exact .inl h
        · exact .inr (.inr (.inl h))
        · exact .inr (.inl h)
        · exact .inr (.inr (.inr h))
      · rintro (h | h | h | h)
        · exact .inl h
        · exact .inr (.inr (.inl h))
        · exact .inr (.inl h)
        · exact .inr (.inr (.inr h))
    have g2 : Go G' H' ⟨G'.rho, G1.ow, p :: G1.up⟩ H' := Go.less (Γ := Γ) rfl fun a z => (hb a).mp z
    have old : ∀ a, H1 a = none → a ∈ G.rho ∨ H a = none := fun a z => by
      by_cases hr : a ∈ G.rho
      · exact .inl hr
      · cases e : H a with
        | none => exact .inr rfl
        | some o => rw [s1.fr a o hr e] at z; cases z
    refine k.ok t m' ⟨G'.rho, G1.ow, p :: G1.up⟩ p H' pt ⟨s1.ow, by show p :: G1.up = p :: G.up; rw [s1.up], s1.pre.trans s.pre, fun a o n h => ?_, fun a z => ?_⟩ ?_ ⟨r.len, fun n cl a e1 e2 => (r.cell n cl a e1 e2).go' g2, ?_, fun a z => r.live a ((hb a).mp z)⟩ (RootR.go g2 (fun _ z => z) rt)
    · refine s.fr a o (fun z => ?_) (s1.fr a o n h)
      rcases s1.nw a z with q | q
      · exact n q
      · rw [q] at h; cases h
    · rcases s.nw a z with q | q
      · exact s1.nw a q
      · exact old a q
    · rcases old p np with q | q
      · have := r1.live p (hot_iff.mpr (.inl (s1.pre.subset q)))
        rw [np] at this
        simp at this
      · exact q
    · have n := r.nd
      unfold Gh.all at n ⊢
      rw [eo, eu] at n
      simp only [List.map_nil, List.append_nil, List.append_assoc] at n ⊢
      refine (List.Perm.nodup_iff ?_).mp n
      refine List.Perm.append_left _ ?_
      exact (List.perm_middle (l₁ := G1.ow.map (·.2)) (a := p) (l₂ := G1.up)).symm
  · have back : Stp G1 H1 ⟨G'.rho, G1.ow, G1.up⟩ H' := ⟨rfl, rfl, s.pre, s.fr, s.nw⟩
    have hb : ∀ a, Gh.hot ⟨G'.rho, G1.ow, G1.up⟩ a ↔ G'.hot a := fun a => by
      rw [hot_iff, hot_iff, s.ow, s.up]
      show a ∈ G'.rho ∨ a ∈ G1.ow.map (·.2) ∨ a ∈ G1.up ↔ a ∈ G'.rho ∨ a ∈ ([] : List (Nat × Addr)).map (·.2) ∨ a ∈ G1.ow.map (·.2) ++ G1.up
      simp [List.mem_append]
    have g2 : Go G' H' ⟨G'.rho, G1.ow, G1.up⟩ H' := Go.less (Γ := Γ) rfl fun a z => (hb a).mp z
    have r2 : MR Γ ⟨G'.rho, G1.ow, G1.up⟩ m' H' := by
      refine ⟨r.len, fun n cl a e1 e2 => (r.cell n cl a e1 e2).go' g2, ?_, fun a z => r.live a ((hb a).mp z)⟩
      have n := r.nd
      unfold Gh.all at n ⊢
      rw [s.ow, s.up] at n
      simpa [G0] using n
    have := k.ex x m' _ H' cl d p (s1.trans back) r2 (xr.go g2)
    rw [hW] at this
    exact this
theorem sf_call (h : CalF gd X.prog X.w X.K X.mg X.base c.cls k x n F) (hg : gd = true → X.A.guards = some []) (hr : Room j X.A) (hk : k ≤ j) (tk : c.W = noW) (hgl : Gl X x) (ha : SA c X (e :: es) l) (hn : (e :: es).length = n := by rfl)
    (hdb : (x == ("__debug__" : Str)) = false := by decide) (he : starEach (e :: es) X.env = (false, eval e X.env) :: starEach es X.env := by rfl) (hpl : (backTo pos (starEach es X.env)).any (·.1) = false := by rfl) :
    SF c X (.Call (.Name x p) (e :: es) [] pos) (aCall F [] l) := by
  obtain ⟨f, fd, ps, h1, hlen, hm, kp, b⟩ := h.ex
  refine ⟨fun pins s σ H Q I hq => ?_⟩
  refine wpAny_Call_Name_kw (ld_glob I hgl hm ?_ hdb)
  refine PySem.W.callWith_K (h₀ := X.base) I.ok.mod.kin kp (thn (ha.run pos pins s σ H (fun vs H1 => spF (go X c.cls) ps.length F vs H1 Q) I ?_) fun us s1 ⟨vs, H1, I1, r, q⟩ => ⟨I1.kIn, ?_⟩) he hpl
  · obtain ⟨G, z, m, P, Fx, mr, sr, hl, kk⟩ := hq
    refine ⟨G, z, m, _, Fx, mr, sr, hl, ⟨fun ts m1 G1 vs H1 p1 s1 r1 v1 => call_spF tk (by rw [v1.2, hn, hlen]) kk s1 r1 v1.1 (by simpa using p1), kk.ex⟩⟩
  · have hl : us.length = ps.length := r.length ▸ q.1
    refine wpAny_call (codeAny_mono (h1.run X.A X.stack s1 H1 ⟨us, []⟩ us vs Q noE hg (hr.mono hk) I1.env0 (by have := b s1 us I1.kIn; simpa using this (by simpa using hl)) r q) fun rr s' hq => ?_)
    cases rr with
    | error e => exact False.elim hq
    | ok fl => cases fl <;> first | exact I1.after hq | exact False.elim hq
end
end AM
set_option maxHeartbeats 4000000
namespace AM
open PySem PySem.Spec PyProof.Rows L2 Eb
/-! ## a new value put into a slot behind others; wider draws -/
section
variable {Γ : Gm} {G G1 : Gh} {H H1 : Hp} {m m1 : Mem} {z : SS} {σ : L2.St} {t : T} {p : Addr}
theorem own_putL (i : Nat) (mr : MR Γ G m H) (sr : SR Γ G H z σ) (s1 : Stp ⟨G.rho, G.ow, p :: G.up⟩ H G1 H1) (np : H p = none) (r1 : MR Γ G1 m1 H1) (rt : RootR Γ G1 H1 p t) :
    ∃ G2, SStp G H G2 H1 ∧ MR Γ G2 m1 H1 ∧ SR Γ G2 H1 (z.set i (some (.o t))) (σ.set i (some (.ref p))) ∧ Go G1 H1 G2 H1 := by
  have eu : G1.up = p :: G.up := s1.up
  have eo : G1.ow = G.ow := s1.ow
  let G2 : Gh := ⟨G1.rho, (i, p) :: G1.ow, G.up⟩
  have hh : ∀ a, G2.hot a ↔ G1.hot a := fun a => by
    rw [hot_iff, hot_iff, eu]
    show a ∈ G1.rho ∨ a ∈ p :: G1.ow.map (·.2) ∨ a ∈ G.up ↔ _
    simp only [List.mem_cons]
    constructor
    · rintro (h | (h | h) | h)
      · exact .inl h
      · exact .inr (.inr (.inl h))
      · exact .inr (.inl h)
      · exact .inr (.inr (.inr h))
    · rintro (h | h | h | h)
      · exact .inl h
      · exact .inr (.inl (.inr h))
      · exact .inr (.inl (.inl h))
      · exact .inr (.inr h)
  have g12 : Go G1 H1 G2 H1 := Go.less (Γ := Γ) rfl fun a z => (hh a).mp z
  have mr2 : MR Γ G2 m1 H1 := ⟨r1.len, fun n cl a e1 e2 => (r1.cell n cl a e1 e2).go' g12, by
    have n := r1.nd
    unfold Gh.all at n ⊢
    rw [eu] at n
    show (G1.rho ++ p :: G1.ow.map (·.2) ++ G.up).Nodup
    refine (List.Perm.nodup_iff ?_).mp n
    simp only [List.append_assoc, List.cons_append]
    exact List.Perm.append_left _ List.perm_middle, fun a z => r1.live a ((hh a).mp z)⟩
  have ss : SStp G H G2 H1 := ⟨rfl, s1.pre, fun a o n1 n2 h => s1.fr a o n1 h, fun a z => by
    have z := (hh a).mp z
    rw [hot_iff] at z ⊢
    rw [eu, eo] at z
    rcases z with z | z | z
    · exact (s1.nw a z).imp .inl id
    · exact .inl (.inr (.inl z))
    · rcases List.mem_cons.mp z with z | z
      · exact .inr (by rw [z]; exact np)
      · exact .inl (.inr (.inr z))⟩
  have own_ne : ∀ j q, (j, q) ∈ G.ow → ∀ o, H q = some o → H1 q = some o := fun j q hq o e => s1.fr q o (fun y => ((nd3 mr.nd).1 y).1 (own_mem hq)) e
  have sr2 : SR Γ G2 H1 z σ := sr.sstep ss.go fun j q hq => ⟨List.mem_cons_of_mem _ (by rw [eo]; exact hq), own_ne j q hq⟩
  refine ⟨G2, ss, mr2, ⟨by simp [sr.len], fun j u e => ?_, fun j u e => ?_⟩, g12⟩
  · by_cases hc : i = j
    · subst hc
      have hi : i < z.length := by
        have := (List.getElem?_eq_some_iff.mp e).1
        simpa using this
      rw [List.getElem?_set_self hi] at e
      cases e
    · rw [List.getElem?_set_ne hc] at e ⊢
      exact sr2.val j u e
  · by_cases hc : i = j
    · subst hc
      have hi : i < z.length := by
        have := (List.getElem?_eq_some_iff.mp e).1
        simpa using this
      rw [List.getElem?_set_self hi] at e
      cases e
      refine ⟨p, List.mem_cons_self, List.getElem?_set_self (by rw [← sr.len]; exact hi), ?_⟩
      cases t with
      | lst ts => obtain ⟨us, h1, h2⟩ := rt; exact ⟨us, h1, h2.go g12⟩
      | dct ts => obtain ⟨us, h1, h2⟩ := rt; exact ⟨us, h1, h2.go g12⟩
      | _ => exact rt.elim
    · rw [List.getElem?_set_ne hc] at e ⊢
      exact sr2.own j u e
end
section
variable {c : Cl} {X : Cx} {e1 e2 e3 : Expr} {a b d : AE} {st : Stmt}
@[simp] def sParL (i j : Nat) (a d : AE) : AS := fun D z m => a z m (fun t m1 => d z m1 (fun w m3 => D.nx ((z.set i (some (.v t))).set j (some (.o w))) m3) (D.ex z)) (D.ex z)
@[simp] def sPar3L (i j l : Nat) (a b d : AE) : AS := fun D z m => a z m (fun t m1 => b z m1 (fun u m2 => d z m2 (fun w m3 => D.nx (((z.set i (some (.v t))).set j (some (.v u))).set l (some (.o w))) m3) (D.ex z)) (D.ex z)) (D.ex z)
theorem s_parL {i j : Nat} (mk : ∀ {t1 t2 : TE}, PE X e1 t1 → PE X e2 t2 → PS X st (tPar i j (tCons t1 (tCons t2 tNil)))) (ha : SE c X e1 a) (hd : SF c X e2 d) : S1 c X st (sParL i j a d) := ps_weak (mk ha hd) fun E σ H ⟨G, z, m, D, mr, sr, h, k⟩ =>
  ⟨G, z, m, _, _, mr, sr, h, k.ex' mr.nd sr fun t m1 G1 v1 H1 p1 s1 r1 v => by
    have k1 := k.step s1.ss mr.nd r1.nd
    have sr1 := sr.step mr.nd s1
    refine ⟨G1, z, m1, _, _, r1, sr1, p1, ⟨fun w m3 G3 p H3 p3 s3 np r3 rt => ?_, (k1.ex' (Rl := VR (go X c.cls)) (P := fun _ _ => False) (Q := fun _ _ => False) r1.nd sr1 fun _ _ _ _ _ z => z.elim).ex⟩⟩
    obtain ⟨G2, ss, mr2, sr2, g⟩ := own_putL j r1 (sr1.set v i) s3 np r3 rt
    exact ⟨_, _, rfl, k1.nx _ m3 G2 _ H3 p3 ss mr2 sr2⟩⟩
theorem s_par3L {i j l : Nat} (mk : ∀ {t1 t2 t3 : TE}, PE X e1 t1 → PE X e2 t2 → PE X e3 t3 → PS X st (tPar3 i j l (tCons t1 (tCons t2 (tCons t3 tNil))))) (ha : SE c X e1 a) (hb : SE c X e2 b) (hd : SF c X e3 d) : S1 c X st (sPar3L i j l a b d) := ps_weak (mk ha hb hd) fun E σ H ⟨G, z, m, D, mr, sr, h, k⟩ =>
  ⟨G, z, m, _, _, mr, sr, h, k.ex' mr.nd sr fun t m1 G1 v1 H1 p1 s1 r1 v => by
    have k1 := k.step s1.ss mr.nd r1.nd
    have sr1 := sr.step mr.nd s1
    refine ⟨G1, z, m1, _, _, r1, sr1, p1, k1.ex' r1.nd sr1 fun u m2 G2 v2 H2 p2 s2 r2 vu => ?_⟩
    have k2 := k1.step s2.ss r1.nd r2.nd
    have sr2 := sr1.step r1.nd s2
    refine ⟨G2, z, m2, _, _, r2, sr2, p2, ⟨fun w m3 G3 p H3 p3 s3 np r3 rt => ?_, (k2.ex' (Rl := VR (go X c.cls)) (P := fun _ _ => False) (Q := fun _ _ => False) r2.nd sr2 fun _ _ _ _ _ z => z.elim).ex⟩⟩
    obtain ⟨G4, ss, mr4, sr4, g⟩ := own_putL l r2 ((sr2.set (v.go s2.go) i).set vu j) s3 np r3 rt
    exact ⟨_, _, _, rfl, k2.nx _ m3 G4 _ H3 p3 ss mr4 sr4⟩⟩
end
@[simp] def potDrawB : AF := fun ts m P _ => match ts with
  | [.obj n, .int k] => 0 < k ∧ k ≤ 10 ^ 60 ∧ m[n]? = some .pot ∧ ∀ d : Nat, (d : Int) < k → P (.int d) m
  | _ => False
section
variable {gd md : Bool} {P : Program} {w : World} {K : PySem.W.Frag} {mg : Str → Option Value} {base : Heap} {cls : List String} {k : Nat} {f : Addr} {fd : FuncData} {ps : List Str} {F : AF}
theorem Fa.potDB (h : Fa gd md P w K mg base cls k f fd ps F) (hi : ∀ (n : Nat) (x y k : Int) (m : Mem) (P : PX) (Fx : FX), 0 ≤ x → 0 ≤ y → y < 2147483648 → 0 < k → k ≤ 10 ^ 60 → m[n]? = some (.lst [.int x, .int y]) →
    (∀ d x' y', 0 ≤ d → d < k → 0 ≤ x' → 0 ≤ y' → y' < 2147483648 → P (.int d) (m.set n (.lst [.int x', .int y']))) → F [.obj n, .int k] m P Fx) : Fa gd md P w K mg base cls k f fd ps potDrawB :=
  ⟨fun A outer s H args us vs Q E hg hr e b r ⟨l, G, ts, m, P, Fx, mr, ow, vr, hf, k1, k2⟩ => by
    refine h.run A outer s H args us vs Q E hg hr e b r ?_
    unfold potDrawB at hf
    split at hf
    · rename_i n kk
      obtain ⟨h1, h2, h3, h4⟩ := hf
      obtain ⟨a, ea, x, y, c1, c2, c3, c4⟩ := mr.cellAt h3
      have hl : n < m.length := (List.getElem?_eq_some_iff.mp h3).1
      have mr1 : MR ⟨K, cls⟩ G (m.set n (.lst [.int x, .int y])) H := mr.chg fun a' e' => by
        rw [ea] at e'; cases e'; exact pot_lst.mpr c1
      refine ⟨l, G, _, m.set n (.lst [.int x, .int y]), fun t m' => ∃ (d : Nat) (x' y' : Int), t = .int d ∧ (d : Int) < kk ∧ 0 ≤ x' ∧ 0 ≤ y' ∧ y' < 2147483648 ∧ m' = m.set n (.lst [.int x', .int y']), fun _ _ => False, mr1, ow, vr, hi n x y kk _ _ _ c2 c3 c4 h1 h2 (List.getElem?_set_self hl) fun d x' y' d0 d1 hx hy hy2 => ?_, fun t m' G' v H' p s r vr => ?_, fun x m' G' H' c d p => p.elim⟩
      · exact ⟨d.toNat, x', y', by rw [Int.toNat_of_nonneg d0], by rw [Int.toNat_of_nonneg d0]; exact d1, hx, hy, hy2, by rw [List.set_set]⟩
      · obtain ⟨d, x', y', rfl, hd, hx, hy, hy2, rfl⟩ := p
        refine k1 _ m G' v H' (h4 d hd) s ?_ vr
        have r2 := r.chg (n := n) (cl := .pot) fun a' e' => by
          have c := r.cell n (.lst [.int x', .int y']) a' (List.getElem?_set_self hl) e'
          exact ⟨x', y', pot_lst.mp c, hx, hy, hy2⟩
        rw [List.set_set] at r2
        have e3 : m.set n .pot = m := by
          apply List.ext_getElem?
          intro i
          by_cases hi : n = i
          · subst hi; rw [List.getElem?_set_self hl, h3]
          · rw [List.getElem?_set_ne hi]
        rw [e3] at r2
        exact r2
    · exact hf.elim⟩
theorem CalA.potDB {x : Str} (h : CalA gd md P w K mg base cls k x [] 2 F) (hi : ∀ (n : Nat) (x y k : Int) (m : Mem) (P : PX) (Fx : FX), 0 ≤ x → 0 ≤ y → y < 2147483648 → 0 < k → k ≤ 10 ^ 60 → m[n]? = some (.lst [.int x, .int y]) →
    (∀ d x' y', 0 ≤ d → d < k → 0 ≤ x' → 0 ≤ y' → y' < 2147483648 → P (.int d) (m.set n (.lst [.int x', .int y']))) → F [.obj n, .int k] m P Fx) : CalA gd md P w K mg base cls k x [] 2 potDrawB :=
  let ⟨f, fd, ps, ds, dvs, h1, r⟩ := h.ex; ⟨f, fd, ps, ds, dvs, h1.potDB hi, r⟩
end
theorem div_mid {i j : Int} (h0 : 0 < j) (h1 : j < 2 ^ 250) : CDivP i j := by
  refine ⟨h0, ?_⟩
  unfold Builtin.divisionGoesByPylong
  have e : j.natAbs.log2 < 251 := by
    refine Nat.log2_lt (by omega) |>.mpr ?_
    have : (j.natAbs : Int) = j := Int.natAbs_of_nonneg (by omega)
    have h2 : (j.natAbs : Int) < 2 ^ 250 := by rw [this]; exact h1
    have h3 : j.natAbs < 2 ^ 250 := by exact_mod_cast h2
    omega
  have e2 : (if (j == 0) = true then 0 else j.natAbs.log2 / 30 + 1) ≤ 300 := by
    split <;> omega
  simp only [Bool.and_eq_false_iff, decide_eq_false_iff_not]
  left
  omega
end AM
set_option maxHeartbeats 4000000
namespace AM
open PySem PySem.Spec PyProof.Rows L2 Eb
/-! ## classmethods: what is passed first is the class -/
structure CmA (gd : Bool) (P : Program) (w : World) (K : PySem.W.Frag) (mg : Str → Option Value) (base : Heap) (cls : List String) (k : Nat) (C : String) (m : Str) (n : Nat) (F : V → AF) : Prop where
  ex : ∃ (p g : Addr) (fd : FuncData) (ps : List Str), ClX.CRead K (ga K C) (.type "type") ∧ ClX.CMet K (ga K C) (.type "type") m p g ∧ Fa gd false P w K mg base cls k g fd ps (F (.ref (ga K C))) ∧ ps.length = 1 + n ∧ Binds K fd ps []
@[simp] def aClm (F : V → AF) (l : AA) : AE := fun z m P Fx => l z m (fun ts m1 => ∀ cv, F cv (.cst cv :: ts) m1 P Fx) Fx
@[simp] def aMakeV (C : String) (cv : V) (i : Nat) (F : AF) (l : AA) : AE := fun z m P Fx => z[i]? = some (some (.v (.cst cv))) ∧ aMake C F [] l z m P Fx
section
variable {gd md : Bool} {c : Cl} {X : Cx} {k j n : Nat} {C : String} {m x : Str} {p pos apos : Pos} {e o : Expr} {es : List Expr} {l : AA}
theorem se_clm {pl : Sem Bool} {F : V → AF} (h : CmA gd X.prog X.w X.K X.mg X.base c.cls k C m n F) (hg : gd = true → X.A.guards = some []) (hr : Room j X.A) (hk : k ≤ j) (tk : Pas false X c.W) (hc : PE X o (tC (.ref (ga X.K C)))) (ha : SA c X (e :: es) l) (hn : (e :: es).length = n := by rfl)
    (hst : starEach (e :: es) X.env = (false, eval e X.env) :: starEach es X.env := by rfl) (hpl : (backTo pos (starEach es X.env)).any (·.1) = false := by rfl)
    (ht : eval (.Call (.Attribute o m apos) (e :: es) [] pos) X.env = (do
      let ov ← eval o X.env
      standAt apos.atName
      let (f, first) ← holding [ov] (getMethod ov m pl)
      callWith pos f first (backTo pos (starEach (e :: es) X.env)) (backToKw pos (keywordEach [] X.env))) := by rfl) :
    SE c X (.Call (.Attribute o m apos) (e :: es) [] pos) (aClm F l) := by
  obtain ⟨p, g, fd, ps, r, cm, h1, hlen, b⟩ := h.ex
  refine ⟨fun pins s σ H Q I hq => ?_⟩
  obtain ⟨G, z, m0, P, Fx, mr, sr, hl, kk⟩ := hq
  refine PySem.W.methodCall_KW (pl := pl) (thn (hc.run pins s σ H (fun x H1 => x = .ref (ga X.K C) ∧ H1 = H) I ⟨rfl, rfl⟩) fun u s1 ⟨x, H1, I1, rx, ex, eH⟩ => ?_) ht
  subst ex
  subst eH
  obtain rfl : u = Value.ref (ga X.K C) := rx
  refine ClX.getmethcm_ok I1 r cm fun s2 I2 => ?_
  refine ClX.callwith_cm I2 (ClX.base_none I1 (Nat.le_refl _)) cm.fi (thn (ha.run pos _ s2 σ _ (fun vs H1 => spA (go X c.cls) ps.length (F (.ref (ga X.K C))) (.ref (ga X.K C) :: vs) H1 Q (fun cl d H => c.W cl d σ H)) I2 ?_) fun us s3 ⟨vs, H2, I3, rv, q2⟩ => ⟨⟨ClX.pin_at I3, I3.kIn⟩, ?_⟩) hst hpl
  · exact ⟨G, z, m0, _, Fx, mr, sr, hl, kk.mv Stp.refl fun ts m1 G1 vs H1 p1 s1 r1 v1 => call_sp (by rw [List.length_cons, v1.2, hn, hlen]; omega) kk s1 r1 (vrs_cons.mpr ⟨_, _, rfl, vr_cst.mpr rfl, v1.1⟩) (p1 _)⟩
  · refine thn (Q := EP X ((s1.heap.objs.size, PySem.W.methodObj (.ref g) (.ref (ga X.K C))) :: pins) σ Q) (wpAny_call (PySem.W.method_call (ClX.pin_at I3) ?_)) fun _ _ y => ClX.unpinE y
    have tk : c.W = noW := tk
    rw [tk] at q2
    have r2 : Vals (V.ref (ga X.K C) :: vs) (Value.ref (ga X.K C) :: us) := .cons rfl rv
    have hl2 : (Value.ref (ga X.K C) :: us).length = ps.length := r2.length ▸ q2.1
    refine codeAny_mono (h1.run X.A X.stack s3 H2 ⟨.ref (ga X.K C) :: us, []⟩ (.ref (ga X.K C) :: us) (.ref (ga X.K C) :: vs) Q noE hg (hr.mono hk) I3.env0 (by have := b s3 (.ref (ga X.K C) :: us) I3.kIn; simpa using this (by simpa using hl2)) r2 q2) fun rr s' hq => ?_
    cases rr with
    | error e => exact False.elim hq
    | ok fl => cases fl <;> first | exact I3.after hq | exact False.elim hq
theorem se_makeV {i : Nat} {F : AF} (h : MakA gd md X.prog X.w X.K X.mg X.base c.cls k C [] n F) (hg : gd = true → X.A.guards = some []) (hr : Room j X.A) (hk : k + 1 ≤ j) (tk : Pas md X c.W) (hv : SE c X (.Name x p) (aVar i)) (ha : SA c X (e :: es) l) (hn : (e :: es).length = n := by rfl)
    (he : starEach (e :: es) X.env = (false, eval e X.env) :: starEach es X.env := by rfl) (hpl : (backTo pos (starEach es X.env)).any (·.1) = false := by rfl) :
    SE c X (.Call (.Name x p) (e :: es) [] pos) (aMakeV C (.ref (ga X.K C)) i F l) := by
  obtain ⟨f, fd, ps, ds, dvs, M, h1, hlen, hm, b, d, vd, ik⟩ := h.ex
  refine ⟨fun pins s σ H Q I hq => ?_⟩
  obtain ⟨G, z, m0, P, Fx, mr, sr, ⟨hz, hl⟩, kk⟩ := hq
  refine wpAny_Call_Name_kw (thn (hv.run pins s σ H (fun v H1 => v = .ref (ga X.K C) ∧ rOf (fun G H ts us => VRs (go X c.cls) G H ts us ∧ us.length = (e :: es).length) (go X c.cls) c.W l σ H1 fun vs H1 => ∀ x dx, H1 x = none → H1 dx = none → dx ≠ x → spA (go X c.cls) ps.length F (.ref x :: (vs ++ dvs)) (upd (upd H1 dx (.own x)) x (.ins (ga X.K C) dx [])) (fun v H2 => v = .non ∧ Q (.ref x) H2) (fun cl d H => c.W cl d σ H)) I ?_) fun u s1 ⟨x, H1, I1, rx, ex, q⟩ => ?_)
  · refine ⟨G, z, m0, fun t m1 => t = .cst (.ref (ga X.K C)) ∧ m1 = m0, Fx, mr, sr, ?_, kk.mv Stp.refl fun t m1 G1 v H1 p1 s1 r1 v1 => ?_⟩
    · simp [hz]
    · obtain ⟨rfl, rfl⟩ := p1
      refine ⟨vr_cst.mp v1, G1, z, m1, _, Fx, r1, sr.step mr.nd s1, hl, (kk.mv s1 (Rl' := VR (go X c.cls)) (P' := P) (Q' := Q) fun t m' G' v H' a b c d => kk.ok t m' G' v H' a (s1.trans b) c d).mv Stp.refl fun ts m2 G2 vs H2 p2 s2 r2 v2 => make_sp (by rw [List.length_append, v2.2, hn, hlen, ← (vd G2 H2).length]; omega) ik vd kk (s1.trans s2) r2 v2.1 p2⟩
  · subst ex
    obtain rfl : u = Value.ref (ga X.K C) := rx
    exact PySem.W.callWith_K (h₀ := X.base) I1.ok.mod.kin M.kp (thn (ha.run pos pins s1 σ H1 _ I1 q)
      fun us s1 ⟨vs, H1, I1, r, q⟩ => ⟨I1.kIn, runMake M h1 hg (hr.mono hk) tk b d I1 r q⟩) he hpl
end
end AM
set_option maxHeartbeats 4000000
namespace AM
open PySem PySem.Spec PyProof.Rows L2 Eb
/-! ## classmethods: what the head tells, and the promise -/
def cmtB (C m : Str) (K : PySem.W.Frag) : Bool := He5.wrapB K (He.ga K C) "classmethod" "classmethod.__get__" m && PySem.W.fnIn K (He5.wf K (He.ga K C) "classmethod" m)
theorem cmt_ok {C m : Str} {K : PySem.W.Frag} (h : cmtB C m K = true) : ClX.CMet K (He.ga K C) (.type "type") m (He.ma K (He.ga K C) m) (He5.wf K (He.ga K C) "classmethod" m) :=
  He5.cmet_of (He.ba h).1 (He.ba h).2
section
variable {gd : Bool} {P : Program} {w : World} {K : PySem.W.Frag} {mg : Str → Option Value} {base : Heap} {cls : List String} {k n : Nat} {p g : Addr} {ps N : List Str} {m x qual : Str} {params : Arguments} {body : List Stmt} {scope : Scope} {a : V → AS} {C : String}
theorem cmA (r : ClX.CRead K (ga K C) (.type "type")) (cm : ClX.CMet K (ga K C) (.type "type") m p g) (h : ∃ fd, FunD K x qual params body scope [] [] g fd) (S : FnScope N ps scope) (bd : Bd x qual params body scope ps) (hn : ps.length = 1 + n) (hb : By0 gd P w K mg base cls k g N qual body scope (a (.ref (ga K C)))) : CmA gd P w K mg base cls (k + 1) C m n (fun cv => fB N.length (a cv)) := by
  obtain ⟨fd, F⟩ := h
  exact ⟨p, g, fd, ps, r, cm, fa0 F S hb, hn, F.bindsN bd⟩
end
end AM
set_option maxHeartbeats 4000000
namespace AM
open PySem PySem.Spec PyProof.Rows L2 Eb
/-! ## what raises nothing, where something may be raised -/
@[simp] def nfE (a : AE) : AE := fun z m P _ => a z m P fun _ _ => False
@[simp] def nfT (a : AT) : AT := fun z m P _ => a z m P fun _ _ => False
@[simp] def nfA (a : AA) : AA := fun z m P _ => a z m P fun _ _ => False
@[simp] def nfS (a : AS) : AS := fun D z m => a { D with ex := fun _ _ _ => False } z m
@[simp] def nf (F : AF) : AF := fun ts m P _ => F ts m P fun _ _ => False
section
variable {cls : List String} {W : WX} {X : Cx} {e : Expr} {es : List Expr} {a : AE} {t : AT} {l : AA} {st : Stmt} {s : AS}
theorem SE.nf (h : SE ⟨cls, noW⟩ X e a) : SE ⟨cls, W⟩ X e (nfE a) := pe_weak h fun σ H Q ⟨G, z, m, P, F, mr, sr, ha, k⟩ => ⟨G, z, m, P, _, mr, sr, ha, ⟨k.ok, fun _ _ _ _ _ _ z => z.elim⟩⟩
theorem SB.nf (h : SB ⟨cls, noW⟩ X e a) : SB ⟨cls, W⟩ X e (nfE a) := pe_weak h fun σ H Q ⟨G, z, m, P, F, mr, sr, ha, k⟩ => ⟨G, z, m, P, _, mr, sr, ha, ⟨k.ok, fun _ _ _ _ _ _ z => z.elim⟩⟩
theorem ST.nf (h : ST ⟨cls, noW⟩ X e t) : ST ⟨cls, W⟩ X e (nfT t) := pt_weak h fun σ H Q ⟨G, z, m, P, F, mr, sr, ha, k⟩ => ⟨G, z, m, P, _, mr, sr, ha, ⟨k.ok, fun _ _ _ _ _ _ z => z.elim⟩⟩
theorem SA.nf (h : SA ⟨cls, noW⟩ X es l) : SA ⟨cls, W⟩ X es (nfA l) := pa_weak h fun σ H Q ⟨G, z, m, P, F, mr, sr, ha, k⟩ => ⟨G, z, m, P, _, mr, sr, ha, ⟨k.ok, fun _ _ _ _ _ _ z => z.elim⟩⟩
theorem SF.nf (h : SF ⟨cls, noW⟩ X e a) : SF ⟨cls, W⟩ X e (nfE a) := pe_weak h fun σ H Q ⟨G, z, m, P, F, mr, sr, ha, k⟩ => ⟨G, z, m, P, _, mr, sr, ha, ⟨k.ok, fun _ _ _ _ _ _ z => z.elim⟩⟩
theorem S1.nf (h : S1 ⟨cls, noW⟩ X st s) : S1 ⟨cls, W⟩ X st (nfS s) := ps_weak h fun E σ H ⟨G, z, m, D, mr, sr, ha, k⟩ => ⟨G, z, m, _, mr, sr, ha, ⟨k.nx, k.rt, k.bk, k.ct, fun _ _ _ _ _ _ _ _ z => z.elim⟩⟩
end
section
variable {gd : Bool} {P : Program} {w : World} {K : PySem.W.Frag} {mg : Str → Option Value} {base : Heap} {cls : List String} {k n : Nat} {f : Addr} {fd : FuncData} {ps : List Str} {F : AF} {x m : Str} {dts : List T} {C : String}
theorem Fa.up (h : Fa gd false P w K mg base cls k f fd ps F) : Fa gd true P w K mg base cls k f fd ps (nf F) :=
  ⟨fun A outer s H args us vs Q E hg hr e b r ⟨l, G, ts, m, P, Fx, mr, ow, vr, hf, k1, k2⟩ => codeAny_mono (h.run A outer s H args us vs Q E hg hr e b r ⟨l, G, ts, m, P, fun _ _ => False, mr, ow, vr, hf, k1, fun _ _ _ _ _ _ z => z.elim⟩) fun r s' hq => by
    cases r with
    | error e => exact False.elim hq
    | ok fl => cases fl <;> first | exact hq | exact False.elim hq⟩
theorem CalA.up (h : CalA gd false P w K mg base cls k x dts n F) : CalA gd true P w K mg base cls k x dts n (nf F) := let ⟨f, fd, ps, ds, dvs, h1, r⟩ := h.ex; ⟨f, fd, ps, ds, dvs, h1.up, r⟩
theorem MetA.up (h : MetA gd false P w K mg base cls k C m dts n F) : MetA gd true P w K mg base cls k C m dts n (nf F) := let ⟨f, fd, ps, ds, dvs, h0, h1, r⟩ := h.ex; ⟨f, fd, ps, ds, dvs, h0, h1.up, r⟩
theorem MakA.up (h : MakA gd false P w K mg base cls k C dts n F) : MakA gd true P w K mg base cls k C dts n (nf F) := let ⟨f, fd, ps, ds, dvs, h0, h1, r⟩ := h.ex; ⟨f, fd, ps, ds, dvs, h0, h1.up, r⟩
end
/-! ## defs that may raise -/
section
variable {gd : Bool} {P : Program} {w : World} {K : PySem.W.Frag} {mg : Str → Option Value} {base : Heap} {cls : List String} {k n : Nat} {f : Addr} {fd : FuncData} {ps N : List Str} {x qual : Str} {params : Arguments} {body : List Stmt} {scope : Scope} {a : AS} {C : String}
theorem calX1 (h : ∃ fd, FunD K x x params body scope [] [] f fd) (g : mg x = some (.ref f)) (S : FnScope N ps scope) (bd : Bd x x params body scope ps) (hn : ps.length = n) (hb : By1 gd P w K mg base cls k f N x body scope a) : CalA gd true P w K mg base cls (k + 1) x [] n (fB N.length a) := by
  obtain ⟨fd, F⟩ := h
  exact ⟨f, fd, ps, [], [], fa1 F S hb, by rw [hn]; rfl, g, F.kp, F.bindsN bd, .nil, fun _ _ => vrs_nil.mpr rfl⟩
theorem metX1 (h : ∃ fd, FunD K x qual params body scope [] [] f fd) (m : Meth K (ga K C) x f) (S : FnScope N ps scope) (bd : Bd x qual params body scope ps) (hn : ps.length = 1 + n) (hb : By1 gd P w K mg base cls k f N qual body scope a) : MetA gd true P w K mg base cls (k + 1) C x [] n (fB N.length a) := by
  obtain ⟨fd, F⟩ := h
  exact ⟨f, fd, ps, [], [], m, fa1 F S hb, by rw [hn]; rfl, F.bindsN bd, .nil, fun _ _ => vrs_nil.mpr rfl⟩
theorem makX1 (h : ∃ fd, FunD K x qual params body scope [] [] f fd) (M : Mk K (ga K C) f) (g : mg (PySem.Str.ofString C) = some (.ref (ga K C))) (ik : InsK ⟨K, cls⟩ C []) (S : FnScope N ps scope) (bd : Bd x qual params body scope ps) (hn : ps.length = 1 + n) (hb : By1 gd P w K mg base cls k f N qual body scope a) : MakA gd true P w K mg base cls (k + 1) C [] n (fB N.length a) := by
  obtain ⟨fd, F⟩ := h
  exact ⟨f, fd, ps, [], [], M, fa1 F S hb, by rw [hn]; rfl, g, F.bindsN bd, .nil, fun _ _ => vrs_nil.mpr rfl, ik⟩
end
/-! ## raise -/
section
variable {c : Cl} {X : Cx} {j : Nat} {e : Expr} {a : AE} {p pos pos' : Pos}
@[simp] def sRaise (C f : String) (a : AE) : AS := fun D z m => a z m (fun t m1 => D.ex z (C, [(f, t)]) m1) (D.ex z)
theorem s_raise {x f : String} (cx : Exi X.prog X.w X.K X.mg X.base (PySem.Str.ofString x) (PySem.Str.ofString f)) (hc : X.calm = true) (tk : Takes X c.W) (hr : Room j X.A) (hj : 2 ≤ j) (hg : Gl X (PySem.Str.ofString x)) (he : SE c X e a) (hdb : (PySem.Str.ofString x == ("__debug__" : Str)) = false := by decide)
    (hse : starEach [e] X.env = (false, eval e X.env) :: starEach [] X.env := by rfl) (hpl : (backTo pos (starEach [] X.env)).any (·.1) = false := by rfl) :
    S1 c X (.Raise (some (.Call (.Name (PySem.Str.ofString x) p) [e] [] pos)) none pos') (sRaise x f a) := ps_weak (ps_raise hc tk (pmk_e cx hr hj hg (sa_cons he sa_nil hse) hdb hse hpl)) fun E σ H ⟨G, z, m, D, mr, sr, h, k⟩ => by
  refine ⟨G, z, m, fun ts m1 => ∃ t, ts = [t] ∧ D.ex z (x, [(f, t)]) m1, D.ex z, mr, sr, ?_, k.ex' mr.nd sr fun ts m1 G1 vs H1 ⟨t, e1, p1⟩ s1 r1 v1 => ?_⟩
  · have h : a z m (fun t m1 => D.ex z (x, [(f, t)]) m1) (D.ex z) := h
    simpa using h
  · subst e1
    obtain ⟨v, r, rfl, hv, hn⟩ := vrs_cons.mp v1.1
    rw [vrs_nil.mp hn]
    refine ⟨v, rfl, fun d hd => ?_⟩
    have s2 : Stp G1 H1 G1 (upd H1 d (.xd [(PySem.Str.ofString f, v)])) := Stp.new hd
    exact k.ex z _ m1 G1 σ _ _ _ p1 (s1.trans s2).ss (r1.new hd) (sr.step mr.nd (s1.trans s2)) ⟨rfl, d, _, rfl, r1.cold hd, upd_same, vrf_cons.mpr ⟨_, _, rfl, s2.vr hv, vrf_nil.mpr rfl⟩⟩
end
/-! ## try .. except C as n -/
def gnA (i : Nat) (D : EA) : EA := { nx := fun z m => D.nx (z.set i none) m, rt := D.rt, bk := fun z m => D.bk (z.set i none) m, ct := fun z m => D.ct (z.set i none) m, ex := fun _ _ _ => False }
def hsX (anc : String → List String) (D : EA) (i : Nat) : List (String × (Addr → Addr → AS)) → SS → Exn → Mem → Prop
  | [], z, x, m => D.ex z x m
  | (C, h) :: r, z, x, m => if subC anc x.1 C = true then x.1 = C ∧ ∀ a dd, h a dd (gnA i D) (z.set i (some (.v (.exc a dd x.1 x.2)))) m else hsX anc D i r z x m
def sTry (anc : String → List String) (xs : List String) (i : Nat) (b : AS) (hs : List (String × (Addr → Addr → AS))) : AS := fun D z m => b { D with ex := fun z' x m' => x.1 ∈ xs ∧ hsX anc D i hs z' x m' } z m
theorem SR.setN {Γ : Gm} {G : Gh} {H : Hp} {z : SS} {σ : L2.St} (r : SR Γ G H z σ) (i : Nat) : SR Γ G H (z.set i none) (σ.set i none) := by
  refine ⟨by simp [r.len], fun j t e => ?_, fun j t e => ?_⟩
  · by_cases hc : i = j
    · subst hc
      rw [List.getElem?_set] at e
      simp at e
    · rw [List.getElem?_set_ne hc] at e ⊢
      exact r.val j t e
  · by_cases hc : i = j
    · subst hc
      rw [List.getElem?_set] at e
      simp at e
    · rw [List.getElem?_set_ne hc] at e ⊢
      exact r.own j t e
inductive HsA (cls : List String) (X : Cx) (n : Str) : List ExceptHandler → List (String × (Addr → Addr → AS)) → Prop
  | nil : HsA cls X n [] []
  | cons {C : String} {h : Addr → Addr → AS} {st : Stmt} {su : List Stmt} {np hp : Pos} {hs : List ExceptHandler} {l : List (String × (Addr → Addr → AS))} (hc : Names X (PySem.Str.ofString C) (.ref (ga X.K C)))
      (hsu : ∀ (a dd : Addr) (ob : Obj) (pn : List (Addr × Obj)), Zc (.ref (ga X.K C)) (some dd) ob → (∃ vs, ob.data = .fields vs) → S2 ⟨cls, noW⟩ (X.suite a ((a, ob) :: pn)) (st :: su) (h a dd)) (r : HsA cls X n hs l) :
      HsA cls X n (.ExceptHandler (some (.Name (PySem.Str.ofString C) np)) (some n) (st :: su) hp :: hs) ((C, h) :: l)
def tsA (X : Cx) (cls : List String) (C : String) (h : Addr → Addr → AS) : TSx := fun a cl dd E σ H => ∃ d, dd = some d ∧ cl = .ref (ga X.K C) ∧ sOf ⟨X.K, cls⟩ noW (h a d) E σ H
theorem HsA.to {cls : List String} {X : Cx} {n : Str} {hs : List ExceptHandler} {l : List (String × (Addr → Addr → AS))} (h : HsA cls X n hs l) : HsAs X n hs (l.map fun p => (.ref (ga X.K p.1), tsA X cls p.1 p.2)) := by
  induction h with
  | nil => exact .nil
  | cons hc hsu r ih =>
    refine .cons hc (fun a ob cl dd pn hz hf => ⟨fun pins s σ H D I hq => ?_⟩) ih
    obtain ⟨d, rfl, rfl, hq⟩ := hq
    exact (hsu a d ob pn hz hf).run pins s σ H D I hq
theorem s_try {anc : String → List String} {xs : List String} {c : Cl} {X : Cx} {body : List Stmt} {h1 : ExceptHandler} {hs : List ExceptHandler} {l : List (String × (Addr → Addr → AS))} {pos : Pos} {b : AS} {i : Nat} {n : Str} (hstk : X.stack = X.env :: X.outer) (hfr : X.env.frame = some X.env.locals) (nd : X.N.Nodup) (hi : X.N[i]? = some n) (hln : X.env.kindOf n = some .local) (tk : Takes X c.W)
    (hem : ∀ x ∈ xs, ∀ p ∈ l, PySem.W.exmOne X.K (.ref (ga X.K x)) (.ref (ga X.K p.1)) = some (subC anc x p.1))
    (hb : ∀ (W : WX) (pn : List (Addr × Obj)) (xe : Value → Shared → Prop), Takes (X.tr pn xe) W → PassesOwn (model X.prog X.w) X.A X.env xe → S2 ⟨c.cls, W⟩ (X.tr pn xe) body b)
    (hh : HsA c.cls X n (h1 :: hs) l) : S1 c X (.Try body (h1 :: hs) [] [] pos) (sTry anc xs i b l) := by
  refine ps_weak (ps_tryAs (tb := fun W => sOf ⟨X.K, c.cls⟩ W b) (Wo := c.W) hstk hfr nd hi hln tk (fun W pn xe tk ps => hb W pn xe tk ps) hh.to) fun E σ H ⟨G, z, m, D, mr, sr, h, k⟩ => ?_
  refine ⟨G, z, m, _, mr, sr, h, ⟨k.nx, k.rt, k.bk, k.ct, fun z' x m' G' σ' H' cl d ⟨hx, p⟩ s r sr' xr => ?_⟩⟩
  have key : ∀ l' : List (String × (Addr → Addr → AS)), (∀ q ∈ l', q ∈ l) → hsX anc D i l' z' x m' → wsAs X.K i c.W E (l'.map fun p => (.ref (ga X.K p.1), tsA X c.cls p.1 p.2)) cl d σ' H' := by
    intro l'
    induction l' with
    | nil => intro _ hp; exact k.ex z' x m' G' σ' H' cl d hp s r sr' xr
    | cons q l' ih =>
      intro hm hp
      obtain ⟨C, hC⟩ := q
      have hem := hem x.1 hx (C, hC) (hm _ List.mem_cons_self)
      have ecl : cl = .ref (ga X.K x.1) := xr.1
      refine ⟨subC anc x.1 C, by rw [ecl]; exact hem, fun hbt a na => ?_, fun hbf => ih (fun q hq => hm q (List.mem_cons_of_mem _ hq)) ?_⟩
      · unfold hsX at hp
        rw [if_pos hbt] at hp
        obtain ⟨e, hp⟩ := hp
        obtain ⟨_, dd, us, rfl, n, e3, e4⟩ := xr
        refine ⟨dd, rfl, by rw [ecl, e], G', _, m', gnA i D, r, sr'.set (v := .ref a) (t := .exc a dd x.1 x.2) (vr_exc.mpr ⟨rfl, n, us, e3, e4⟩) i, hp a dd, ?_⟩
        have k1 := k.step s mr.nd r.nd
        exact ⟨fun z m G σ H a b c d => k1.nx _ m G _ H a b c (d.setN i), k1.rt, fun z m G σ H a b c d => k1.bk _ m G _ H a b c (d.setN i), fun z m G σ H a b c d => k1.ct _ m G _ H a b c (d.setN i), fun _ _ _ _ _ _ _ _ z => z.elim⟩
      · unfold hsX at hp
        rw [if_neg (by rw [hbf]; decide)] at hp
        exact hp
  exact key l (fun _ h => h) p
/-! ## e.f in the suite -/
@[simp] def aXf (a dd : Addr) (C f : String) (A : AE) : AE := fun z m P F => A z m (fun t m1 => match t with
  | .exc a' dd' C' fs => a' = a ∧ dd' = dd ∧ C' = C ∧ (match fs.lookup f with | some v => P v m1 | none => False)
  | _ => False) F
theorem se_xf {cls : List String} {W : WX} {X : Cx} {a dd : Addr} {oe : Obj} {pn : List (Addr × Obj)} {e : Expr} {A : AE} {pos : Pos} {C f : String} (T : XfC X.K (ga X.K C)) (hno : PySem.W.findIn X.K (.ref (ga X.K C)) (PySem.Str.ofString f) = some none)
    (hz : Zc (.ref (ga X.K C)) (some dd) oe) (hf : ∃ vs, oe.data = .fields vs) (he : SE ⟨cls, W⟩ (X.suite a ((a, oe) :: pn)) e A) (hb : attributeBase e (PySem.Str.ofString f) X.env (eval e X.env) = eval e X.env := by rfl) :
    SE ⟨cls, W⟩ (X.suite a ((a, oe) :: pn)) (.Attribute e (PySem.Str.ofString f) pos) (aXf a dd C f A) := pe_weak (pe_xf T hno hz hf he hb) fun σ H Q ⟨G, z, m, P, F, mr, sr, h, k⟩ =>
  ⟨G, z, m, _, F, mr, sr, h, k.mv Stp.refl fun t m1 G1 v H1 p1 s1 r1 v1 => by
    split at p1
    · rename_i a' dd' C' fs
      obtain ⟨rfl, rfl, rfl, p1⟩ := p1
      obtain ⟨rfl, n, us, e3, e4⟩ := vr_exc.mp v1
      split at p1
      · rename_i w ew
        obtain ⟨u, e5, e6⟩ := e4.look ew
        exact ⟨rfl, rfl, dd', us, u, rfl, e3, e5, k.ok w m1 G1 u H1 p1 s1 r1 e6⟩
      · exact p1.elim
    · exact p1.elim⟩
end AM
set_option maxHeartbeats 4000000
namespace AM
open PySem PySem.Spec PyProof.Rows L2 Eb
/-! ## a lambda is made: what changes of the heap, to the point -/
/-- the table at P after it -/
def LamH (H : Hp) (P c' : Addr) (ps : Array Value) (q : Str) (H1 : Hp) : Prop := (H1 = H ∧ ∃ pos, codeAmong pos ps.toList = some (.ref c')) ∨
  (H c' = none ∧ ∃ ps', H1 = upd (upd H P (.tbl ps')) c' (LamX.CodeO c' q) ∧ TriplesOk ps'.toList ∧ ∀ pos cv, codeAmong pos ps'.toList = some cv → codeAmong pos ps.toList = some cv ∨ cv = .ref c')
section
variable {X : Cx} {pins : List (Addr × Obj)} {σ : L2.St} {H : Hp} {s : Shared}
theorem lam_mk {c P : Addr} {ps : Array Value} {params : Arguments} {body : Expr} {scope : Scope} {pos : Pos} {E Q : Value → Shared → Prop} (I : Inv X pins σ H s) (TB : LamX.TabB X.base X.mg c P) (hcode : X.env.code = .ref c) (hP : H P = some (.tbl ps)) (ht : TriplesOk ps.toList)
    (ha : ∀ (p : Pos) (cv : Value), codeAmong p ps.toList = some cv → ∃ c0, cv = .ref c0 ∧ H c0 = some (LamX.CodeO c0 (X.env.qual ++ "<lambda>"))) (hdef : defaultsOf params X.env = ([], [])) (hfree : ∀ y ∈ scope.names, y.2 = .free → ∃ c, X.env.cells.lookup y.1 = some c)
    (h : ∀ (f c' : Addr) (pm ctv : Value) (H1 : Hp) (s' : Shared), Inv X pins σ H1 s' → LamH H P c' ps (X.env.qual ++ "<lambda>") H1 →
      s'.heap.get? f = some (PySem.W.kla_obj "<lambda>" (X.env.qual ++ "<lambda>") params body scope (cloFrom X.env.cells scope.names []) pm c' ctv) → H1 f = none → f ∉ frs X.stack → H1 c' = some (LamX.CodeO c' (X.env.qual ++ "<lambda>")) → Q (.ref f) s') :
    wpAny (model X.prog X.w) X.A (eval (.Lambda params body scope pos) X.env) Q E s := by
  have noF : ∀ b, s.heap.objs.size ≤ b → b ∉ frs X.stack := by
    intro b hb hin
    cases List.mem_cons.mp (I.stkSub _ hin) with
    | inl e => exact Nat.lt_irrefl _ (Nat.lt_of_lt_of_le (e ▸ I.lt) hb)
    | inr e => exact I.nofs hb e
  have atP : s.heap.get? P = some { cls := .none, data := .fields ps } := I.hok P _ hP
  refine PySem.W.kla_eval hdef ?_
  generalize hcs : codeAmong pos ps.toList = o
  cases o with
  | some cv =>
    obtain ⟨c0, rfl, h0⟩ := ha pos cv hcs
    refine PySem.W.kla_makeFunctionHit (ps := ps) (closure_ok hfree) I.ok.glob (I.mod.glob.keeps I.bk) hcode (TB.code.keeps I.bk) atP ht hcs (TB.bm.keeps I.bk) fun ctv hp tk kp sz => ?_
    refine h hp.objs.size c0 _ ctv H _ (I.kept (t' := tk) fun b o e => Heap.get?_push_of_some _ (kp b o e)) (.inl ⟨rfl, pos, hcs⟩) (Heap.get?_push_size _ rfl) (I.hok.fresh sz) (noF _ sz) h0
  | none =>
    refine PySem.W.kla_makeFunction (ps := ps) (closure_ok hfree) I.ok.glob (I.mod.glob.keeps I.bk) hcode (TB.code.keeps I.bk) atP ht hcs TB.gP (TB.bm.keeps I.bk) fun c1 ctv hp tk kp ge lt rc tb => ?_
    obtain ⟨c2, oc, vs, t, e2, g1, g2, g3⟩ := rc
    cases e2
    have sz : s.heap.objs.size ≤ hp.objs.size := by omega
    have n1 : H c1 = none := I.hok.fresh ge
    have el : (ps ++ #[rawInt pos.line, rawInt pos.col, .ref c1]).toList = ps.toList ++ [rawInt pos.line, rawInt pos.col, .ref c1] := by simp
    have J := LamX.inv_table (t' := tk) (q := X.env.qual ++ "<lambda>") (more := #[rawInt pos.line, rawInt pos.col, .ref c1]) (h' := hp.push (PySem.W.kla_obj "<lambda>" (X.env.qual ++ "<lambda>") params body scope (cloFrom X.env.cells scope.names []) ((X.mg "__name__").getD .none) c1 ctv)) I hP
      (fun b o hb e => Heap.get?_push_of_some _ (kp b o hb e)) (Heap.get?_push_of_some _ tb) ge ⟨oc, vs, t, Heap.get?_push_of_some _ g1, g2, g3⟩
    refine h hp.objs.size c1 _ ctv _ _ J (.inr ⟨n1, _, rfl, by rw [el]; exact PySem.TriplesOk_snoc _ _ _ _ ht, fun p cv hc => by rw [el] at hc; exact LamX.among_app _ ht hc⟩) (Heap.get?_push_size _ rfl) ?_ (noF _ sz) upd_same
    have a1 : hp.objs.size ≠ c1 := by omega
    have a2 : hp.objs.size ≠ P := Nat.ne_of_gt (Nat.lt_of_lt_of_le (Heap.lt_size atP) sz)
    rw [upd_ne a1, upd_ne a2]
    exact I.hok.fresh sz
end
end AM
set_option maxHeartbeats 4000000
namespace AM
open PySem PySem.Spec PyProof.Rows L2 Eb
/-! ## the memory behind the making of a lambda -/
theorem lam_mr {Γ : Gm} {G : Gh} {H H1 : Hp} {m : Mem} {j : Nat} {x q : Str} {P c' : Addr} {ps : Array Value} (mr : MR Γ G m H) (hj : m[j]? = some (.tab x q)) (ej : G.rho[j]? = some P) (hP : H P = some (.tbl ps)) (h : LamH H P c' ps q H1) : Stp G H G H1 ∧ MR Γ G m H1 ∧ (H c' = some (LamX.CodeO c' q) ∨ H c' = none) ∧ ¬ G.hot c' := by
  obtain ⟨h0, ⟨ps0, a1, a2, a3⟩, a4⟩ := mr.cell j _ P hj ej
  rw [hP] at a1
  cases a1
  rcases h with ⟨rfl, pos, hc⟩ | ⟨n1, ps', rfl, t1, t2⟩
  · obtain ⟨c0, e0, e1⟩ := a3 pos _ hc
    cases e0
    exact ⟨Stp.refl, mr, .inl e1, a4 c' ⟨ps, pos, hP, hc⟩⟩
  · have cc : ¬ G.hot c' := mr.cold n1
    have Pr : P ∈ G.rho := List.mem_of_getElem? ej
    have nP : P ≠ c' := fun e => by rw [e, n1] at hP; cases hP
    have same : ∀ a, a ≠ P → a ≠ c' → upd (upd H P (.tbl ps')) c' (LamX.CodeO c' q) a = H a := fun a h1 h2 => by rw [upd_ne h2, upd_ne h1]
    have st : Stp G H G (upd (upd H P (.tbl ps')) c' (LamX.CodeO c' q)) := ⟨rfl, rfl, List.prefix_refl _, fun a o n e => by rw [same a (fun z => n (z ▸ Pr)) (fun z => by rw [z, n1] at e; cases e)]; exact e, fun _ h => .inl h⟩
    refine ⟨st, ⟨mr.len, fun n cl a e1 e2 => ?_, mr.nd, fun a z => ?_⟩, .inr n1, cc⟩
    · by_cases hn : n = j
      · subst hn
        rw [hj] at e1
        cases e1
        rw [ej] at e2
        cases e2
        have eP : upd (upd H P (.tbl ps')) c' (LamX.CodeO c' q) P = some (.tbl ps') := by rw [upd_ne nP, upd_same]
        refine ⟨h0, ⟨ps', eP, t1, fun pos cv hc => ?_⟩, fun c ⟨qs, pos, e5, e6⟩ => ?_⟩
        · rcases t2 pos cv hc with z | rfl
          · obtain ⟨c0, rfl, e7⟩ := a3 pos cv z
            refine ⟨c0, rfl, ?_⟩
            rw [same c0 (fun e => by rw [e, hP] at e7; exact (LamX.codeO_ne ps (Option.some.inj e7).symm).elim) (fun e => by rw [e, n1] at e7; cases e7)]
            exact e7
          · exact ⟨c', rfl, upd_same⟩
        · rw [eP] at e5
          cases e5
          rcases t2 pos _ e6 with z | z
          · exact a4 c ⟨ps, pos, hP, z⟩
          · cases z; exact cc
      · have ne : a ≠ P := fun e => by
          subst e
          have nd := (List.nodup_append.mp (List.nodup_append.mp mr.nd).1).1
          exact hn ((List.getElem?_inj (List.getElem?_eq_some_iff.mp e2).1 nd).mp (e2.trans ej.symm))
        exact (mr.cell n cl a e1 e2).go st.go (same a ne fun z => mr.live a (hot_iff.mpr (.inl (List.mem_of_getElem? e2))) (z ▸ n1))
    · by_cases e1 : a = P
      · rw [e1, upd_ne nP, upd_same]; simp
      · rw [same a e1 fun e => mr.live a z (e ▸ n1)]; exact mr.live a z
/-! ## the def that calls what it got -/
abbrev Th := Mem → PX → FX → Prop
def actT (P : Program) (w : World) (K : PySem.W.Frag) (mg : Str → Option Value) (base : Heap) (Ng : List Str) (qg : Str) (sg : Scope) (g : Addr) (cdg : Value) (A : Around) (outer : List Env) (s : Shared) (H : Hp) (a : Str) (f c' : Addr) (q : Str) (tl : XK → Hp → VK → Prop) : Prop :=
  ∀ (W : WX) (pn : List (Addr × Obj)) (xe : Value → Shared → Prop) (p1 p2 : Pos), Takes ((cxOf C8.CX0 P w K mg base Ng qg sg g cdg A outer s H C8.E0).tr pn xe) W →
    PE ((cxOf C8.CX0 P w K mg base Ng qg sg g cdg A outer s H C8.E0).tr pn xe) (.Call (.Name a p1) [] [] p2) fun σZ HZ Q => σZ[0]? = some (some (.ref f)) ∧ HZ c' = some (LamX.CodeO c' q) ∧ tl (WE W σZ) HZ Q
/-- the call of the lambda, at the slots of its maker -/
theorem act2 {X : Cx} {pins : List (Addr × Obj)} {σ : L2.St} {H : Hp} {s : Shared} {Ng : List Str} {qg : Str} {sg : Scope} {g f c' : Addr} {cdg pm ctv : Value} {params : Arguments} {body : Expr} {scope : Scope} {k : Nat} {a : Str} {tb : XK → TE}
    (I : Inv X pins σ H s) (L : LamX.LamS X.env.scope scope) (hf : s.heap.get? f = some (PySem.W.kla_obj "<lambda>" (X.env.qual ++ "<lambda>") params body scope (cloFrom X.env.cells scope.names []) pm c' ctv)) (hfn : H f = none) (hfr : f ∉ frs X.stack)
    (hbind : bindArgs (PySem.W.kla_fn "<lambda>" (X.env.qual ++ "<lambda>") params body scope (cloFrom X.env.cells scope.names []) pm (.ref c') ctv) ⟨[], []⟩ = pure []) (hr : Room (k + 1) (X.A.deeper (envOfC qg sg s.heap.objs.size g cdg)))
    (hbody : ∀ (A : Around) (outer : List Env) (s : Shared) (H : Hp) (E : XK), A.guards = X.A.guards → Room k (A.deeper (LamX.lamEnv X scope s.heap.objs.size f c')) → PE (LamX.lamCx X A outer s H E scope f c') body (tb E))
    (hN : Ng[0]? = some a) (hv : Vis sg a) (hd : (a == ("__debug__" : Str)) = false) (hcd : (a == ("__classdict__" : Str)) = false) :
    actT X.prog X.w X.K X.mg X.base Ng qg sg g cdg X.A X.stack s H a f c' (X.env.qual ++ "<lambda>") fun E H' Q' => tb E σ H' Q' := by
  intro W pn xe p1 p2 tk
  refine ⟨fun pZ sZ σZ HZ Q IZ ⟨z1, z2, z3⟩ => ?_⟩
  have first := (pe_var (X := (cxOf C8.CX0 X.prog X.w X.K X.mg X.base Ng qg sg g cdg X.A X.stack s H C8.E0).tr pn xe) (pos := p1) (i := 0) hN hv hd hcd).run pZ sZ σZ HZ (fun v Hv => v = .ref f ∧ Hv = HZ) IZ ⟨.ref f, z1, rfl, rfl⟩
  refine wpAny_Call_Name_kw (thn first ?_)
  rintro u sA ⟨v, HA, IA, ra, rfl, rfl⟩
  obtain rfl : u = Value.ref f := ra
  have ofA := IA.base.keep f _ hf hfn hfr fun z => List.not_mem_nil (show f ∈ ([] : List Addr) from z)
  refine PySem.W.callWith_F0 ⟨_, _, _, _, ofA⟩ ?_
  obtain ⟨⟨oc, vs, t, o1, o2, o3⟩, _⟩ := IA.hok c' _ z2
  have run : codeAny (model X.prog X.w) (X.A.deeper (envOfC qg sg s.heap.objs.size g cdg)) (.call (.ref f) ⟨[], []⟩) (L2.CR (L2.CX X.prog X.w) (envOfC qg sg s.heap.objs.size g cdg :: X.stack) X.prog X.w HA sA Q (WE W σZ)) sA := by
    refine PySem.W.kla_callFunE hr.depth ofA rfl L.co L.gen rfl ⟨c', oc, vs, t, rfl, o1, o2, o3⟩ ?_
    rw [hbind]
    refine wpAny_pure (wpAny_newFunctionEnv (fun y hy => (L.own y hy).2) (fun y hy => (List.not_mem_nil hy).elim) (fun hN1 ns sb => ⟨IA.nolimit.fresh _ sb, ?_⟩) L.kind)
    have kp : ∀ b o, sA.heap.get? b = some o → hN1.get? b = some o := fun b o e => sb.extBut b o (Nat.ne_of_lt (Heap.lt_size e)) (Heap.get?_push_of_some _ e)
    have J := LamX.lam_start2 (E := WE W σZ) (c' := c') (tk := sA.toks + ([] : List (Str × Value)).length) I L IA.env0 hr.hd IA.base ns kp (f := f)
    refine PySem.W.kla_codeExpr (wpAny_mono ((hbody (X.A.deeper (envOfC qg sg s.heap.objs.size g cdg)) _ sA HA (WE W σZ) rfl (hr.deeper _)).run [] _ σ HA Q J z3) ?_ fun _ _ hq => hq)
    rintro v sC ⟨y, HC, JC, rv, q⟩
    exact ⟨y, HC, JC.os, JC.bare, JC.base, JC.hok, rv, q⟩
  refine wpAny_call (codeAny_mono run fun r sB hq => ?_)
  cases r with
  | error e => exact passAt tk σZ pZ HA sA e sB IA hq
  | ok fl => cases fl <;> first | exact IA.after hq | exact False.elim hq
end AM
set_option maxHeartbeats 4000000
namespace AM
open PySem PySem.Spec PyProof.Rows L2 Eb
/-! ## x(lambda: body) -/
abbrev KR := Gh → Hp → V → Prop
@[simp] def aThk (n : Nat) (R : KR) (θ : Th) : AE := fun z m P F => z[0]? = some (some (.v (.kr n R))) ∧ θ m P F
def TR (Γ : Gm) (G0 : Gh) (H0 : Hp) (θ : Th) (tl : XK → Hp → VK → Prop) : Prop := ∀ (G : Gh) (m : Mem) (H : Hp) (P : PX) (F : FX) (E : XK) (Q : VK), Go G0 H0 G H → MR Γ G m H → θ m P F →
  (∀ t m' G' v H', P t m' → Stp G H G' H' → MR Γ G' m' H' → VR Γ G' H' t v → Q v H') → (∀ x m' G' H' c d, F x m' → Stp G H G' H' → MR Γ G' m' H' → XR Γ G' H' x c d → E c d H') → tl E H Q
theorem se_thk {cls : List String} {W : WX} {X : Cx} {a : Str} {p1 p2 : Pos} {f c' : Addr} {q : Str} {tl : XK → Hp → VK → Prop} {n : Nat} {θ : Th} {G0 : Gh} {H0 : Hp}
    (act : PE X (.Call (.Name a p1) [] [] p2) fun σZ HZ Q => σZ[0]? = some (some (.ref f)) ∧ HZ c' = some (LamX.CodeO c' q) ∧ tl (WE W σZ) HZ Q) (hc : ¬ G0.hot c') (hco : H0 c' = some (LamX.CodeO c' q)) (tr : TR ⟨X.K, cls⟩ G0 H0 θ tl) :
    SE ⟨cls, W⟩ X (.Call (.Name a p1) [] [] p2) (aThk n (fun G H v => v = .ref f ∧ G = G0 ∧ H = H0) θ) := pe_weak act fun σ H Q ⟨G, z, m, P, F, mr, sr, ⟨hz, hθ⟩, k⟩ => by
  obtain ⟨v, e1, e2⟩ := sr.val 0 _ hz
  obtain ⟨_, Ga, Ha, ⟨rfl, rfl, rfl⟩, _, g⟩ := vr_kr.mp e2
  exact ⟨e1, (g.keep c' _ hc hco).1, tr G m H P F _ Q g mr hθ k.ok k.ex⟩
def TTA (Γ : Gm) (F : Th → Mem → PX → Prop) (c' : Addr) (tl : XK → Hp → VK → Prop) (H : Hp) (Q : VK) : Prop := ∃ G m P θ, MR Γ G m H ∧ G.ow = [] ∧ ¬ G.hot c' ∧ F θ m P ∧ TR Γ G H θ tl ∧ ∀ t m' G' v H', P t m' → Stp G H G' H' → MR Γ G' m' H' → VR Γ G' H' t v → Q v H'
structure SaiA (gd : Bool) (P : Program) (w : World) (K : PySem.W.Frag) (mg : Str → Option Value) (base : Heap) (cls : List String) (k : Nat) (x : Str) (F : Th → Mem → PX → Prop) : Prop where
  ex : ∃ (g : Addr) (Ng : List Str) (sg : Scope) (cdv : Value) (a : Str), mg x = some (.ref g) ∧ PySem.W.keepIn K (.ref g) = true ∧ Ng[0]? = some a ∧ Vis sg a ∧ (a == ("__debug__" : Str)) = false ∧ (a == ("__classdict__" : Str)) = false ∧
    ∀ (A : Around) (outer : List Env) (s : Shared) (H : Hp) (f c' : Addr) (q : Str) (tl : XK → Hp → VK → Prop) (Q : VK), (gd = true → A.guards = some []) → Room k A → Env0 P w K mg base A outer s H → actT P w K mg base Ng x sg g cdv A outer s H a f c' q tl → H c' = some (LamX.CodeO c' q) → TTA ⟨K, cls⟩ F c' tl H Q →
      codeAny (model P w) A (.call (.ref g) ⟨[.ref f], []⟩) (L2.CR C8.CX0 outer P w H s Q C8.E0) s
def fBS (n : Nat) (B : Nat → KR → Th → AS) : Th → Mem → PX → Prop := fun θ m P => ∀ l R, B l R θ { nx := fun _ m => P .non m, rt := P, bk := fun _ _ => False, ct := fun _ _ => False, ex := fun _ _ _ => False } (stA n [.kr l R]) m
section
variable {gd : Bool} {P : Program} {w : World} {K : PySem.W.Frag} {mg : Str → Option Value} {base : Heap} {cls : List String} {k : Nat} {g : Addr} {N : List Str} {x a : Str} {params : Arguments} {body : List Stmt} {scope : Scope} {B : Nat → KR → Th → AS}
def ByS (gd : Bool) (P : Program) (w : World) (K : PySem.W.Frag) (mg : Str → Option Value) (base : Heap) (cls : List String) (k : Nat) (g : Addr) (N : List Str) (x a : Str) (body : List Stmt) (scope : Scope) (B : Nat → KR → Th → AS) : Prop :=
  ∀ (cdv : Value) (A : Around) (outer : List Env) (s : Shared) (H : Hp) (X : Cx), X = (cxOf C8.CX0 P w K mg base N x scope g cdv A outer s H C8.E0).nox → (gd = true → X.A.guards = some []) → Room k X.A → ∀ (n : Nat) (R : KR) (θ : Th),
    (∀ (W : WX) (pn : List (Addr × Obj)) (xe : Value → Shared → Prop) (p1 p2 : Pos), Takes ((cxOf C8.CX0 P w K mg base N x scope g cdv A outer s H C8.E0).tr pn xe) W → SE ⟨cls, W⟩ ((cxOf C8.CX0 P w K mg base N x scope g cdv A outer s H C8.E0).tr pn xe) (.Call (.Name a p1) [] [] p2) (aThk n R θ)) →
    S2 ⟨cls, noW⟩ (cxOf C8.CX0 P w K mg base N x scope g cdv A outer s H C8.E0).nox body (B n R θ)
theorem saiA (h : ∃ fd, FunD K x x params body scope [] [] g fd) (gm : mg x = some (.ref g)) (S : FnScope N [a] scope) (bd : Bd x x params body scope [a]) (hN : N[0]? = some a) (hv : Vis scope a) (d1 : (a == ("__debug__" : Str)) = false) (d2 : (a == ("__classdict__" : Str)) = false)
    (hb : ByS gd P w K mg base cls k g N x a body scope B) : SaiA gd P w K mg base cls (k + 1) x (fBS N.length B) := by
  obtain ⟨fd, F⟩ := h
  have bn := F.bindsN bd
  have kp := F.kp
  obtain ⟨oc, od, dV, kV, doc, pm, an, cdv, ct, osl, rfl, lk, hcd, _, _⟩ := F.ex
  refine ⟨g, N, scope, cdv, a, gm, kp, hN, hv, d1, d2, fun A outer s H f c' q tl Q hg hr e0 act hco ⟨G, m, P', θ, mr, ow, cc, hF, tr, k1⟩ => ?_⟩
  have KX : K.In s.heap := e0.mod.kin.keeps fun b o e => (e0.bs b o e).1
  have lim : s.heap.NoLimit := e0.mod.nolimit.keeps fun b o e => (e0.bs b o e).1
  have hbd := bn s [.ref f] KX rfl
  refine codeAny_call_function hr.depth (KX _ _ lk) rfl S.co S.gen rfl (PySem.W.codeRec_of KX hcd) (hbd _ _ _ _ ?_)
  refine wpAny_newFunctionEnv_cells S.kind (fun q hq => ?_) fun env he s1 x1 => ?_
  · obtain ⟨n, v⟩ := q
    rcases S.par n (List.of_mem_zip hq).1 with z | z
    · exact .inl z
    · exact .inr ⟨z, PySem.W.cellsFrom_some _ _ _ (.inl z)⟩
  · subst he
    refine ⟨lim.keeps x1.toInCall.keep, codeAny_func ?_⟩
    have ht := hb cdv A outer s H _ rfl hg (hr.deeper _) m.length (fun G1 H1 v => v = .ref f ∧ G1 = G ∧ H1 = H) θ fun W pn xe p1 p2 tk => se_thk (act W pn xe p1 p2 tk) cc hco tr
    have I : Inv (cxOf C8.CX0 P w K mg base N x scope g cdv A outer s H C8.E0) [] (L2.start N [.ref f]) H s1 := inv_start (us := [.ref f]) (vs := [.ref f]) S hr.hd e0 rfl (.cons rfl .nil) x1
    have vk : VR ⟨K, cls⟩ G H (.kr m.length fun G1 H1 v => v = .ref f ∧ G1 = G ∧ H1 = H) (.ref f) := vr_kr.mpr ⟨by rw [mr.len]; exact Nat.le_refl _, G, H, ⟨rfl, rfl, rfl⟩, by rw [mr.len]; exact Nat.le_refl _, Go.refl⟩
    have hq : sOf ⟨K, cls⟩ noW (B m.length (fun G1 H1 v => v = .ref f ∧ G1 = G ∧ H1 = H) θ) { nx := fun _ H' => Q .non H', rt := Q } (L2.start N [.ref f]) H := by
      refine ⟨G, _, m, _, mr, start_sr (VRs.one vk), hF _ _, ⟨fun z m' G' σ H' p s r _ => ?_, fun t m' G' v H' p s r v => ?_, fun z m' G' σ H' p => p.elim, fun z m' G' σ H' p => p.elim, fun z x m' G' σ H' c d p => p.elim⟩⟩
      · obtain ⟨s1, r1, _⟩ := end_off mr ow s r
        exact k1 _ m' _ _ H' p s1 r1 (vr_non.mpr rfl)
      · obtain ⟨s1, r1, g1⟩ := end_off mr ow s r
        exact k1 _ m' _ _ H' p s1 r1 (v.go g1)
    refine wpAny_mono (PSs.nox ht |>.run [] s1 (L2.start N [.ref f]) H _ I hq) (fun fl s' hs => ?_) fun e s' hs => hs
    cases fl with
    | ret u => obtain ⟨v, σ', H', J, rv, q⟩ := hs; exact ⟨v, H', J.os, J.bare, J.base, J.hok, rv, q⟩
    | next => obtain ⟨σ', H', J, q⟩ := hs; exact ⟨V.non, H', J.os, J.bare, J.base, J.hok, rfl, q⟩
    | brk => obtain ⟨_, _, _, q⟩ := hs; exact False.elim q
    | cont => obtain ⟨_, _, _, q⟩ := hs; exact False.elim q
end
end AM
set_option maxHeartbeats 4000000
namespace AM
open PySem PySem.Spec PyProof.Rows L2 Eb
def noS : Option Sl → Option Sl
  | some (.v t) => some (.v t)
  | _ => none
def noO (z : SS) : SS := z.map noS
theorem SR.noO {Γ : Gm} {G : Gh} {H : Hp} {z : SS} {σ : L2.St} (r : SR Γ G H z σ) {G' : Gh} {H' : Hp} (g : Go G H G' H') : SR Γ G' H' (noO z) σ := by
  have look : ∀ (i : Nat) (u : Sl), (AM.noO z)[i]? = some (some u) → ∃ t, u = Sl.v t ∧ z[i]? = some (some (Sl.v t)) := fun i u e => by
    unfold AM.noO at e
    rw [List.getElem?_map] at e
    cases q : z[i]? with
    | none => rw [q] at e; cases e
    | some o =>
      rw [q] at e
      cases o with
      | none => cases e
      | some s =>
        cases s with
        | v t => cases e; exact ⟨t, rfl, rfl⟩
        | o t => cases e
  refine ⟨by unfold AM.noO; rw [List.length_map]; exact r.len, fun i t e => ?_, fun i t e => ?_⟩
  · obtain ⟨t', e1, e2⟩ := look i _ e
    cases e1
    obtain ⟨v, h1, h2⟩ := r.val i t e2
    exact ⟨v, h1, h2.go g⟩
  · obtain ⟨t', e1, e2⟩ := look i _ e
    cases e1
@[simp] def aSaid (j : Nat) (x q : Str) (F : Th → Mem → PX → Prop) (A : AE) : AE := fun z m P Fx => m[j]? = some (.tab x q) ∧ F (fun m' P' F' => A (noO z) m' P' F') m P
section
variable {gd : Bool} {c : Cl} {X : Cx} {k kb j0 j : Nat} {x mk q : Str} {F : Th → Mem → PX → Prop} {params : Arguments} {body : Expr} {scope : Scope} {A : AE} {p lpos pos : Pos}
theorem se_said (h : SaiA gd X.prog X.w X.K X.mg X.base c.cls k x F) (hg : gd = true → X.A.guards = some []) (hr : Room j0 X.A) (hk : k ≤ j0) (hk2 : kb + 2 ≤ j0) (hgl : Gl X x)
    (TB : LamX.TabB X.base X.mg (codAd X.K (He.ga X.K mk)) (tabAd X.K (codAd X.K (He.ga X.K mk)))) (hcode : X.env.code = .ref (codAd X.K (He.ga X.K mk))) (hq : X.env.qual ++ "<lambda>" = q) (L : LamX.LamS X.env.scope scope) (hdef : defaultsOf params X.env = ([], []))
    (hbind : ∀ (q : Str) (cl : List (Str × Addr)) (pm cv ctv : Value), bindArgs (PySem.W.kla_fn "<lambda>" q params body scope cl pm cv ctv) ⟨[], []⟩ = pure [])
    (hbody : ∀ (Ar : Around) (outer : List Env) (s : Shared) (H : Hp) (E : XK) (f c' : Addr), (gd = true → Ar.guards = some []) → Room kb (Ar.deeper (LamX.lamEnv X scope s.heap.objs.size f c')) → SE ⟨c.cls, fun cl d _ H => E cl d H⟩ (LamX.lamCx X Ar outer s H E scope f c') body A)
    (hdb : (x == ("__debug__" : Str)) = false := by decide) : SE c X (.Call (.Name x p) [.Lambda params body scope lpos] [] pos) (aSaid j mk q F A) := by
  subst hq
  obtain ⟨g, Ng, sg, cdv, a, hmg, kp, hN, hv, d1, d2, run⟩ := h.ex
  refine ⟨fun pins s σ H Q I hq => ?_⟩
  obtain ⟨G, z, m, P, Fx, mr, sr, ⟨hm, hF⟩, kk⟩ := hq
  obtain ⟨Pa, ea, eP, ⟨ps, a1, a2, a3⟩, a4⟩ := mr.cellAt hm
  have eP : Pa = tabAd X.K (codAd X.K (He.ga X.K mk)) := eP
  subst eP
  refine wpAny_Call_Name_kw (ld_glob I hgl hmg ?_ hdb)
  refine PySem.W.callWith_K (h₀ := X.base) I.ok.mod.kin kp ?_ (by rfl) (by rfl)
  show wpAny _ _ (spliced ((false, eval (.Lambda params body scope lpos) X.env) :: backTo pos (starEach [] X.env))) _ _ s
  refine Calls.spliced_cons (lam_mk I TB hcode a1 a2 a3 hdef (L.has I.ok) fun f c' pm ctv H1 s' I1 lh hf hfn hfr hco => ?_)
  refine Calls.spliced_nil ⟨I1.kIn, ?_⟩
  obtain ⟨s1, r1, _, cc⟩ := lam_mr mr hm ea a1 lh
  let G0 : Gh := ⟨G.rho, [], G.ow.map (·.2) ++ G.up⟩
  have ea0 : G0.all = G.all := by simp [G0, Gh.all]
  have hh : ∀ b, G0.hot b ↔ G.hot b := fun b => by unfold Gh.hot; rw [ea0]
  have g01 : Go G H1 G0 H1 := Go.less (Γ := go X c.cls) rfl fun b z => (hh b).mp z
  have back : ∀ {G' : Gh} {H' : Hp}, Stp G0 H1 G' H' → Stp G H1 ⟨G'.rho, G.ow, G.up⟩ H' ∧ (∀ b, Gh.hot ⟨G'.rho, G.ow, G.up⟩ b ↔ G'.hot b) := fun {G' H'} st => by
    refine ⟨⟨rfl, rfl, st.pre, st.fr, st.nw⟩, fun b => ?_⟩
    rw [hot_iff, hot_iff, st.ow, st.up]
    show b ∈ G'.rho ∨ b ∈ G.ow.map (·.2) ∨ b ∈ G.up ↔ b ∈ G'.rho ∨ b ∈ ([] : List (Nat × Addr)).map (·.2) ∨ b ∈ G.ow.map (·.2) ++ G.up
    simp [List.mem_append]
  have rc := run X.A X.stack s' H1 f c' (X.env.qual ++ "<lambda>") (fun E H' Q' => rOf (VR (go X c.cls)) (go X c.cls) (fun cl d _ H => E cl d H) A σ H' Q') Q hg (hr.mono hk) I1.env0
    (act2 (k := kb) (tb := fun E σ H' Q' => rOf (VR (go X c.cls)) (go X c.cls) (fun cl d _ H => E cl d H) A σ H' Q') I1 L hf hfn hfr (hbind _ _ _ _ _) ((hr.mono hk2).deeper _) (fun Ar outer s H E eg hrb => hbody Ar outer s H E f c' (fun z => eg.trans (hg z)) hrb) hN hv d1 d2) hco
    ⟨G0, m, P, _, ⟨r1.len, fun n cl b e1 e2 => (r1.cell n cl b e1 e2).go' g01, by rw [ea0]; exact r1.nd, fun b z => r1.live b ((hh b).mp z)⟩, rfl, fun z => cc ((hh c').mp z), hF,
      fun G' m' H' P' F' E' Q' gg mr' hθ k1 k2 => ⟨G', noO z, m', P', F', mr', sr.noO ((s1.go.trans g01).trans gg), hθ, ⟨k1, k2⟩⟩,
      fun t m' G' v H' pt st r vr => by
        obtain ⟨st2, hb⟩ := back st
        have g2 : Go G' H' ⟨G'.rho, G.ow, G.up⟩ H' := Go.less (Γ := go X c.cls) rfl fun b z => (hb b).mp z
        refine kk.ok t m' ⟨G'.rho, G.ow, G.up⟩ v H' pt (s1.trans st2) ⟨r.len, fun n cl b e1 e2 => (r.cell n cl b e1 e2).go' g2, ?_, fun b z => r.live b ((hb b).mp z)⟩ (vr.go g2)
        have n := r.nd
        unfold Gh.all at n ⊢
        rw [st.ow, st.up] at n
        simpa [G0] using n⟩
  refine wpAny_call (codeAny_mono rc fun r s2 hq => ?_)
  cases r with
  | error e => exact (show False from hq).elim
  | ok fl => cases fl <;> first | exact I1.after hq | exact False.elim hq
end
end AM
set_option maxHeartbeats 4000000
namespace AM
open PySem PySem.Spec PyProof.Rows L2 Eb
/-! ## defs that make lambdas: their code object is known -/
section
variable {gd : Bool} {P : Program} {w : World} {K : PySem.W.Frag} {mg : Str → Option Value} {base : Heap} {cls : List String} {k n : Nat} {f : Addr} {fd : FuncData} {ps N : List Str} {x qual : Str} {params : Arguments} {body : List Stmt} {scope : Scope} {a : AS}
def By0L (gd : Bool) (P : Program) (w : World) (K : PySem.W.Frag) (mg : Str → Option Value) (base : Heap) (cls : List String) (k : Nat) (f : Addr) (N : List Str) (qual : Str) (body : List Stmt) (scope : Scope) (a : AS) : Prop :=
  ∀ (cdv : Value) (A : Around) (outer : List Env) (s : Shared) (H : Hp) (E : XK) (X : Cx), cdv = .ref (codAd K f) → X = (cxOf C8.CX0 P w K mg base N qual scope f cdv A outer s H E).nox → (gd = true → X.A.guards = some []) → Room k X.A →
    S2 ⟨cls, noW⟩ (cxOf C8.CX0 P w K mg base N qual scope f cdv A outer s H E).nox body a
theorem fa0L (F : FunD K x qual params body scope [] [] f fd) (S : FnScope N ps scope) (hb : By0L gd P w K mg base cls k f N qual body scope a) : Fa gd false P w K mg base cls (k + 1) f fd ps (fB N.length a) := by
  refine ⟨fun A outer s H args us vs Q E hg hr e0 hbd r hsp => ?_⟩
  obtain ⟨oc, od, dV, kV, doc, pm, an, cdv, ct, osl, rfl, lk, hcd, _, _⟩ := F.ex
  have ce := codAd_of lk hcd
  have hl : vs.length = ps.length := hsp.1
  have KX : K.In s.heap := e0.mod.kin.keeps fun b o e => (e0.bs b o e).1
  have lim : s.heap.NoLimit := e0.mod.nolimit.keeps fun b o e => (e0.bs b o e).1
  refine codeAny_call_function hr.depth (KX _ _ lk) rfl S.co S.gen rfl (PySem.W.codeRec_of KX hcd) (hbd _ _ _ _ ?_)
  refine wpAny_newFunctionEnv_cells S.kind (fun q hq => ?_) fun env he s1 x => ?_
  · obtain ⟨n, v⟩ := q
    rcases S.par n (List.of_mem_zip hq).1 with z | z
    · exact .inl z
    · exact .inr ⟨z, PySem.W.cellsFrom_some _ _ _ (.inl z)⟩
  · subst he
    refine ⟨lim.keeps x.toInCall.keep, codeAny_func ?_⟩
    have ht := hb cdv A outer s H E _ ce rfl hg (hr.deeper _)
    have I : Inv (cxOf C8.CX0 P w K mg base N qual scope f cdv A outer s H E) [] (L2.start N vs) H s1 := inv_start S hr.hd e0 hl r x
    have hq : sOf ⟨K, cls⟩ noW a { nx := fun _ H' => Q .non H', rt := Q } (L2.start N vs) H := body_run (P := P) (w := w) (E := noE) (fun _ _ _ _ z => z) (by rw [hl]; exact hsp)
    refine wpAny_mono (PSs.nox ht |>.run [] s1 (L2.start N vs) H _ I hq) (fun fl s' hs => ?_) fun e s' hs => hs
    cases fl with
    | ret u => obtain ⟨v, σ', H', J, rv, q⟩ := hs; exact ⟨v, H', J.os, J.bare, J.base, J.hok, rv, q⟩
    | next => obtain ⟨σ', H', J, q⟩ := hs; exact ⟨V.non, H', J.os, J.bare, J.base, J.hok, rfl, q⟩
    | brk => obtain ⟨_, _, _, q⟩ := hs; exact False.elim q
    | cont => obtain ⟨_, _, _, q⟩ := hs; exact False.elim q
theorem calAL (h : ∃ fd, FunD K x x params body scope [] [] f fd) (g : mg x = some (.ref f)) (S : FnScope N ps scope) (bd : Bd x x params body scope ps) (hn : ps.length = n) (hb : By0L gd P w K mg base cls k f N x body scope a) : CalA gd false P w K mg base cls (k + 1) x [] n (fB N.length a) := by
  obtain ⟨fd, F⟩ := h
  exact ⟨f, fd, ps, [], [], fa0L F S hb, by rw [hn]; rfl, g, F.kp, F.bindsN bd, .nil, fun _ _ => vrs_nil.mpr rfl⟩
end
/-! ## the head, the tables cut out -/
def obsYT (xs : List Str) (cs : List (PySem.W.Frag → Bool)) (fn : List DefP) (K : PySem.W.Frag) : He.AlD :=
  let C := cut (tabs xs K) K
  let o := obsY cs fn C
  ((tabs xs K).all (tabB K) && (decide (tabs xs C = tabs xs K) && (decide (tabs xs K).Nodup && (xs.all (fun x => PySem.W.codeHdIn C (codAd C (He.ga C x)) (tabAd C (codAd C (He.ga C x)))) && o.1))), o.2)
theorem saysYT {xs : List Str} {cs : List (PySem.W.Frag → Bool)} {fn : List DefP} {K0 : PySem.W.Frag} {h : Heap} (X : K0.In h) (c : obsYT xs cs fn K0 = valP fn) :
    ∃ K : PySem.W.Frag, K.In h ∧ SaysY cs fn K ∧ (tabs xs K).Nodup ∧ ∀ p ∈ mkrs xs K, h.get? p.2 = some emptyTab ∧ K.lookup p.2 = none ∧ PySem.W.CodeHd h p.1 p.2 := by
  have c1 := congrArg (fun z : He.AlD => z.1) c
  have c2 : (obsY cs fn (cut (tabs xs K0) K0)).2 = (valP fn).2 := (show (obsYT xs cs fn K0).2 = (valP fn).2 by rw [c])
  have c1 : ((tabs xs K0).all (tabB K0) && (decide (tabs xs (cut (tabs xs K0) K0) = tabs xs K0) && (decide (tabs xs K0).Nodup && (xs.all (fun x => PySem.W.codeHdIn (cut (tabs xs K0) K0) (codAd (cut (tabs xs K0) K0) (He.ga (cut (tabs xs K0) K0) x)) (tabAd (cut (tabs xs K0) K0) (codAd (cut (tabs xs K0) K0) (He.ga (cut (tabs xs K0) K0) x)))) && (obsY cs fn (cut (tabs xs K0) K0)).1)))) = true := c1
  obtain ⟨t1, c1⟩ := He.ba c1
  obtain ⟨t2, c1⟩ := He.ba c1
  obtain ⟨t5, c1⟩ := He.ba c1
  obtain ⟨t3, t4⟩ := He.ba c1
  have t2 := of_decide_eq_true t2
  refine ⟨cut (tabs xs K0) K0, cut_in X, Prod.ext t4 c2, by rw [t2]; exact of_decide_eq_true t5, fun p hp => ?_⟩
  obtain ⟨x, hx, rfl⟩ := List.mem_map.mp hp
  have m : tabAd (cut (tabs xs K0) K0) (codAd (cut (tabs xs K0) K0) (He.ga (cut (tabs xs K0) K0) x)) ∈ tabs xs K0 := by
    have m' : tabAd (cut (tabs xs K0) K0) (codAd (cut (tabs xs K0) K0) (He.ga (cut (tabs xs K0) K0) x)) ∈ tabs xs (cut (tabs xs K0) K0) := List.mem_map.mpr ⟨x, hx, rfl⟩
    rw [t2] at m'
    exact m'
  exact ⟨tabB_ok X (List.all_eq_true.mp t1 _ m), by rw [cut_lookup, if_pos m], PySem.W.codeHd_of_K (cut_in X) (List.all_eq_true.mp t3 x hx)⟩
def obsZT (n : Nat) (xs : List Str) (cs : List (PySem.W.Frag → Bool)) (fn : List DefP) (g : Addr → Option Obj) : He.AlD := levL g n [mainGlobals] [cStatics, builtinsNs, sysModules] fun as => obsYT xs cs fn (He.frG g as)
def hookZT (n : Nat) (xs : List Str) (cs : List (PySem.W.Frag → Bool)) (fn : List DefP) : PySem.W.Hook where
  α := He.AlD
  obs := fun s => obsZT n xs cs fn s.heap.get?
  val := fun _ => valP fn
  says := fun _ h => ∃ K : PySem.W.Frag, K.In h ∧ obsYT xs cs fn K = valP fn
  of := fun _ s e => by
    obtain ⟨as, ea⟩ := levL_ex s.heap.get? (fun as => obsYT xs cs fn (He.frG s.heap.get? as)) n [mainGlobals] [cStatics, builtinsNs, sysModules]
    exact ⟨_, He.frG_in, ea.symm.trans e⟩
  keeps := fun _ _ _ ⟨K, hK, c⟩ k => ⟨K, hK.keeps k, c⟩
theorem obsZT_eq {n : Nat} {xs : List Str} {cs : List (PySem.W.Frag → Bool)} {fn : List DefP} {g : Addr → Option Obj} {s : Shared} (h : ∀ a, g a = s.heap.get? a) : obsZT n xs cs fn g = (hookZT n xs cs fn).obs s := by
  rw [show g = s.heap.get? from funext h]; rfl
theorem obsYT_app {xs : List Str} {c1 c2 : List (PySem.W.Frag → Bool)} {f1 f2 : List DefP} {K : PySem.W.Frag} (h1 : obsYT xs c1 f1 K = valP f1) (h2 : obsYT xs c2 f2 K = valP f2) : obsYT xs (c1 ++ c2) (f1 ++ f2) K = valP (f1 ++ f2) := by
  unfold obsYT obsY valP at *
  simp only [Prod.mk.injEq, Bool.and_eq_true, List.all_append, List.map_append] at *
  obtain ⟨⟨a1, a2, a3, a4, a5, a6⟩, a7⟩ := h1
  obtain ⟨⟨_, _, _, _, b5, b6⟩, b7⟩ := h2
  exact ⟨⟨a1, a2, a3, a4, ⟨a5, b5⟩, a6, b6⟩, by rw [a7, b7]⟩
theorem obsZT_app {n : Nat} {xs : List Str} {c1 c2 : List (PySem.W.Frag → Bool)} {f1 f2 : List DefP} {g : Addr → Option Obj} (h1 : obsZT n xs c1 f1 g = valP f1) (h2 : obsZT n xs c2 f2 g = valP f2) : obsZT n xs (c1 ++ c2) (f1 ++ f2) g = valP (f1 ++ f2) := by
  unfold obsZT at *
  obtain ⟨as', e3, e4⟩ := levL_at g (fun as => obsYT xs (c1 ++ c2) (f1 ++ f2) (He.frG g as)) (fun as => as) n [mainGlobals] [cStatics, builtinsNs, sysModules]
  obtain ⟨as2, e5, e6⟩ := levL_at g (fun as => obsYT xs c1 f1 (He.frG g as)) (fun as => as) n [mainGlobals] [cStatics, builtinsNs, sysModules]
  obtain ⟨as3, e7, e8⟩ := levL_at g (fun as => obsYT xs c2 f2 (He.frG g as)) (fun as => as) n [mainGlobals] [cStatics, builtinsNs, sysModules]
  have q1 : as2 = as' := e6.symm.trans e4
  have q2 : as3 = as' := e8.symm.trans e4
  subst q1 q2
  rw [e3]
  exact obsYT_app (e5.symm.trans h1) (e7.symm.trans h2)
theorem run_combT {r : PySem.W.OpenRow} {q : Program} {n : Nat} {xs : List Str} {c1 c2 : List (PySem.W.Frag → Bool)} {f1 f2 : List DefP} {M : Nat} {loose : List Str} {w : World}
    (h1 : HandSHeadRun.RunEq r q (hookZT n xs c1 f1) (fun s => obsZT n xs c1 f1 (HandSHeadRun.getT s)) M loose w) (h2 : HandSHeadRun.RunEq r q (hookZT n xs c2 f2) (fun s => obsZT n xs c2 f2 (HandSHeadRun.getT s)) M loose w) :
    HandSHeadRun.RunEq r q (hookZT n xs (c1 ++ c2) (f1 ++ f2)) (fun s => obsZT n xs (c1 ++ c2) (f1 ++ f2) (HandSHeadRun.getT s)) M loose w := by
  intro os
  obtain ⟨s, hs, e1⟩ := Option.map_eq_some_iff.mp (h1 os)
  have b := h2 os
  rw [hs] at b ⊢
  have e2 := Option.some.inj b
  have a1 := (Prod.mk.inj (Prod.mk.inj e1).2)
  have a2 := (Prod.mk.inj (Prod.mk.inj e2).2)
  refine congrArg some (Prod.ext (Prod.mk.inj e1).1 (Prod.ext a1.1 ?_))
  exact obsZT_app a1.2 a2.2
/-! ## the law's end -/
def ql (x : Str) : Str := x ++ ".<locals>." ++ "<lambda>"
def mem0 (xs : List Str) : Mem := xs.map fun x => .tab x (ql x)
theorem walkAT {l : PySem.W.OpenLaw} {n k : Nat} {q : Program} {loose : List Str} {XP : (Str → Option Value) → Heap → Prop} {YP : World → Heap → Prop} {d : DefRec} {x : Str} {F : AF} {cls : List String} {xs : List Str}
    (hn : l.most = some n) (hn2 : n ≤ sizeLine) (hdf : d.params.defaults = []) (hr : Room k callerA) (hF : ∀ ns : List Int, ns.length ≤ n → F [.scr ns] (mem0 xs) (fun t _ => t = .bl true) fun _ _ => False)
    (Fh : ∀ (w : World) (mg : Str → Option Value) (fa : Addr) (h : Heap), YP w h → h.Ns mainGlobals mg → mg d.name = some (.ref fa) →
      ∃ (K : PySem.W.Frag) (fd : FuncData), K.In h ∧ (tabs xs K).Nodup ∧ (∀ p ∈ mkrs xs K, h.get? p.2 = some emptyTab ∧ K.lookup p.2 = none ∧ PySem.W.CodeHd h p.1 p.2) ∧ (∀ (s : Shared) (u : Value), BindsTo s fd ⟨[u], []⟩ [(x, u)]) ∧
        ∀ base : Heap, (∀ p ∈ mkrs xs K, LamX.TabB base mg p.1 p.2) → Fa true false l.prog w K mg base cls k fa fd [x] F) :
    PySem.W.WalkO q loose XP YP l.row.toRowW d [] (fun f vs => PySem.call f vs) := by
  refine walkT (x := x) hn hn2 hdf hr fun w mg fa h Y ns hmg => ?_
  obtain ⟨K, fd, KX, nd, tab, bd, hFa⟩ := Fh w mg fa h Y ns hmg
  have tl : ∀ t, t ∈ tabs xs K → ∃ p ∈ mkrs xs K, p.2 = t := fun t ht => by
    obtain ⟨y, hy, rfl⟩ := List.mem_map.mp ht
    exact ⟨_, List.mem_map.mpr ⟨y, hy, rfl⟩, rfl⟩
  refine ⟨K, fd, fun vs H Q _ => spA ⟨K, cls⟩ 1 F vs H Q noE, mkrs xs K, KX, tab, bd, fun H a ns hl ht hs => ?_, fun base TB => ⟨fun vs H Q E hsp => hsp.1, fun A outer s H args us vs Q E hg hr e0 hbd r hsp => (hFa base TB).run A outer s H args us vs Q E (fun _ => hg) hr e0 hbd r hsp⟩⟩
  have na : ¬ Gh.hot ⟨tabs xs K, [], []⟩ a ∨ WrL K a (ns.map V.int) := by
    by_cases c : a ∈ tabs xs K
    · obtain ⟨p, hp, rfl⟩ := tl a c
      right
      rcases hs with z | z
      · have := ht p hp
        rcases z with z | ⟨u, z⟩ <;> rw [this] at z <;> cases z
      · exact z
    · left
      rw [hot_iff]
      rintro (z | z | z)
      · exact c z
      · cases z
      · cases z
  have mr : MR ⟨K, cls⟩ ⟨tabs xs K, [], []⟩ (mem0 xs) H := by
    refine ⟨by simp [mem0, tabs], fun n cl a e1 e2 => ?_, by simpa [Gh.all] using nd, fun a z => ?_⟩
    · have e1 : (xs.map fun x => Cell.tab x (ql x))[n]? = some cl := e1
      have e2 : (xs.map fun x => tabAd K (codAd K (He.ga K x)))[n]? = some a := e2
      rw [List.getElem?_map] at e1 e2
      cases q : xs[n]? with
      | none => rw [q] at e1; cases e1
      | some y =>
        rw [q] at e1 e2
        cases e1
        cases e2
        have hy : y ∈ xs := List.mem_of_getElem? q
        have t0 := ht (codAd K (He.ga K y), tabAd K (codAd K (He.ga K y))) (List.mem_map.mpr ⟨y, hy, rfl⟩)
        refine ⟨rfl, LamX.TabS.nil t0, fun c ⟨ps, pos, h1, h2⟩ => ?_⟩
        have t0 : H (tabAd K (codAd K (He.ga K y))) = some (.tbl #[]) := t0
        rw [t0] at h1
        cases h1
        have h2 : codeAmong pos [] = some (.ref c) := h2
        simp [codeAmong] at h2
    · have z : a ∈ tabs xs K := by
        rw [hot_iff] at z
        rcases z with z | z | z
        · exact z
        · cases z
        · cases z
      obtain ⟨p, hp, rfl⟩ := tl a z
      rw [ht p hp]
      simp
  refine ⟨rfl, ⟨tabs xs K, [], []⟩, [.scr ns], mem0 xs, _, _, mr, rfl, VRs.one (vr_scr.mpr ⟨a, rfl, ?_⟩), hF ns hl, fun t m' G' v H' e _ _ vr => by subst e; exact vr_bl.mp vr, fun x m' G' H' cl d z _ _ _ => z⟩
  rcases na with z | z
  · exact hs.imp (fun y => ⟨z, y⟩) id
  · exact .inr z
end AM
set_option maxHeartbeats 4000000
namespace AM
open PySem PySem.Spec PyProof.Rows L2 Eb
/-! ## o.m(k = v, ..), C(k = v, ..) -/
theorem spA_pick {Γ : Gm} {n n' : Nat} {F : AF} {ix : List Nat} {ws : List V} {H : Hp} {Q : VK} {E : XK} (h : spA Γ n (fun ts m P Fx => F (pickI ix ts) m P Fx) ws H Q E) (hl : (pickI ix ws).length = n') : spA Γ n' F (pickI ix ws) H Q E :=
  let ⟨_, G, ts, m, P, Fx, mr, ow, vr, hf, k1, k2⟩ := h; ⟨hl, G, _, m, P, Fx, mr, ow, pickI_vrs vr, hf, k1, k2⟩
structure MetK (gd md : Bool) (P : Program) (w : World) (K : PySem.W.Frag) (mg : Str → Option Value) (base : Heap) (cls : List String) (k : Nat) (C : String) (m : Str) (ks : List Str) (ix : List Nat) (F : AF) : Prop where
  ex : ∃ (f : Addr) (fd : FuncData) (ps : List Str), Meth K (ga K C) m f ∧ Fa gd md P w K mg base cls k f fd ps F ∧ ps.length = ix.length ∧ (∀ i ∈ ix, i < 1 + ks.length) ∧
    ∀ (s : Shared) (us ws : List Value), K.In s.heap → us.length = 1 → ws.length = ks.length → BindsTo s fd ⟨us, ks.zip ws⟩ (ps.zip (pickI ix (us ++ ws)))
@[simp] def aMethK (C : String) (F : AF) (ix : List Nat) (a : AE) (lk : AA) : AE := fun z m P Fx => a z m (fun o m1 => clsIs m1 o C ∧ lk z m1 (fun us m2 => F (pickI ix (o :: us)) m2 P Fx) Fx) Fx
structure MakK (gd md : Bool) (P : Program) (w : World) (K : PySem.W.Frag) (mg : Str → Option Value) (base : Heap) (cls : List String) (k : Nat) (C : String) (ks : List Str) (dts : List T) (ix : List Nat) (F : AF) : Prop where
  ex : ∃ (f : Addr) (fd : FuncData) (ps : List Str) (ds : List Value) (dvs : List V), Mk K (ga K C) f ∧ Fa gd md P w K mg base cls k f fd ps F ∧ ps.length = ix.length ∧ (∀ i ∈ ix, i < 1 + (ks.length + dts.length)) ∧ mg (PySem.Str.ofString C) = some (.ref (ga K C)) ∧ Vals dvs ds ∧ (∀ G H, VRs ⟨K, cls⟩ G H dts dvs) ∧ InsK ⟨K, cls⟩ C [] ∧
    ∀ (s : Shared) (us ws : List Value), K.In s.heap → us.length = 1 → ws.length = ks.length → BindsTo s fd ⟨us, ks.zip ws⟩ (ps.zip (pickI ix (us ++ (ws ++ ds))))
@[simp] def aMakeK (C : String) (F : AF) (dts : List T) (ix : List Nat) (lk : AA) : AE := fun z m P Fx => lk z m (fun us m1 => F (pickI ix (.obj m1.length :: us ++ dts)) (m1 ++ [.ins C []]) (fun t m2 => t = .non ∧ P (.obj m1.length) m2) Fx) Fx
section
variable {gd md : Bool} {c : Cl} {X : Cx} {k j : Nat} {C : String} {m : Str} {ks : List Str} {ix : List Nat} {F : AF} {o : Expr} {a : AE} {lk : AA} {kws : List Keyword} {p pos apos : Pos} {dts : List T}
theorem se_methK {pl : Sem Bool} (h : MetK gd md X.prog X.w X.K X.mg X.base c.cls k C m ks ix F) (hg : gd = true → X.A.guards = some []) (hr : Room j X.A) (hk : k ≤ j) (tk : Pas md X c.W) (ho : SE c X o a) (hkw : SK c X kws lk) (hlen : kws.length = ks.length := by rfl)
    (hall : (backToKw pos (keywordEach kws X.env)).all (·.1.isSome) = true := by rfl) (hks : (backToKw pos (keywordEach kws X.env)).filterMap (·.1) = ks := by rfl)
    (hpl : ((backTo pos (starEach [] X.env)).any (·.1) || (backToKw pos (keywordEach kws X.env)).any (·.1.isNone)) = false := by rfl)
    (ht : eval (.Call (.Attribute o m apos) [] kws pos) X.env = (do
      let ov ← eval o X.env
      standAt apos.atName
      let (f, first) ← holding [ov] (getMethod ov m pl)
      callWith pos f first (backTo pos (starEach [] X.env)) (backToKw pos (keywordEach kws X.env))) := by rfl) :
    SE c X (.Call (.Attribute o m apos) [] kws pos) (aMethK C F ix a lk) := by
  obtain ⟨f, fd, ps, hm, h1, hl, hix, b⟩ := h.ex
  refine ⟨fun pins s σ H Q I hq => ?_⟩
  obtain ⟨G, z, m0, P, Fx, mr, sr, hl', kk⟩ := hq
  refine PySem.W.methodCall_KW (pl := pl) (thn (ho.run pins s σ H (fun x H1 => ∃ (a : Addr) (dx : Addr) (us : List (Str × V)), x = .ref a ∧ H1 a = some (.ins (ga X.K C) dx us) ∧ Cls X.K (ga X.K C) ∧ us.lookup m = none ∧
    rOf (fun G H ts us => VRs (go X c.cls) G H ts us ∧ us.length = kws.length) (go X c.cls) c.W lk σ H1 fun zs H2 => zs.length = ks.length ∧ spA (go X c.cls) ps.length F (pickI ix ([.ref a] ++ zs)) H2 Q (fun cl d H => c.W cl d σ H)) I ?_) fun u s1 ⟨x, H1, I1, rx, a, dx, us, ex, ea, cl, lk, q⟩ => ?_) ht
  · refine ⟨G, z, m0, _, Fx, mr, sr, hl', kk.mv Stp.refl fun o1 m1 G1 v1 H1 p1 s1 r1 b1 => ?_⟩
    obtain ⟨hc, p1⟩ := p1
    obtain ⟨⟨C', fs⟩, e1, e2⟩ := Option.map_eq_some_iff.mp hc
    cases (show C' = C from e2)
    obtain ⟨a, dx, us, rfl, ha, ik, vf⟩ := rdI r1 (.inl b1) e1
    refine ⟨a, dx, us, rfl, ha, ik.cl, ik.nometh (f := f) (meth_found hm) vf, G1, z, m1, _, Fx, r1, sr.step mr.nd s1, p1, kk.mv s1 fun ts m2 G2 vs H2 p2 s2 r2 v2 => ⟨by rw [v2.2, hlen], ?_⟩⟩
    refine call_sp (ts := pickI ix ([o1] ++ ts)) ?_ kk (s1.trans s2) r2 (pickI_vrs ((VRs.one (s2.vr b1)).app v2.1)) p2
    rw [hl]
    refine pickI_len fun i hi => ?_
    have := hix i hi
    rw [List.length_append, v2.2, hlen]; exact this
  · subst ex
    obtain rfl : u = Value.ref a := rx
    refine getmeth_ok I1 ea cl hm lk ?_
    refine PySem.W.callWith_KW0 (first := [.ref a]) (h₀ := X.base) I.ok.mod.kin hm.kp hall (thn (hkw.run pos pins s1 σ H1 _ I1 q) fun ws s2 ⟨zs, H2, I2, rz, ez, q2⟩ => ⟨I2.kIn, ?_⟩) hpl
    rw [hks]
    have ew : ws.length = ks.length := by rw [← rz.length, ez]
    exact runK (us := [.ref a]) (vs := [.ref a]) h1 hg (hr.mono hk) tk b rfl ew (by rw [hl]; exact pickI_len fun i hi => by have := hix i hi; simp [ew]; omega) I2 (.cons rfl .nil) rz q2
theorem runMakeK {f : Addr} {fd : FuncData} {ps : List Str} {ds : List Value} {dvs : List V} {pins : List (Addr × Obj)} {σ : L2.St} {H : Hp} {s : Shared} {Q : VK} {ws : List Value} {zs : List V} {C : Addr} (M : Mk X.K C f) (h : Fa gd md X.prog X.w X.K X.mg X.base c.cls k f fd ps F) (hg : gd = true → X.A.guards = some []) (hr : Room (k + 1) X.A) (tk : Pas md X c.W)
    (hb : ∀ (s : Shared) (us ws : List Value), X.K.In s.heap → us.length = 1 → ws.length = ks.length → BindsTo s fd ⟨us, ks.zip ws⟩ (ps.zip (pickI ix (us ++ (ws ++ ds))))) (ew : ws.length = ks.length) (hd : Vals dvs ds) (I : Inv X pins σ H s) (r : Vals zs ws)
    (hs : ∀ x dx, H x = none → H dx = none → dx ≠ x → spA (go X c.cls) ps.length F (pickI ix ([.ref x] ++ (zs ++ dvs))) (upd (upd H dx (.own x)) x (.ins C dx [])) (fun v H2 => v = .non ∧ Q (.ref x) H2) (fun cl d H => c.W cl d σ H)) :
    wpAny (model X.prog X.w) X.A (call (.ref C) [] (ks.zip ws)) (EP X pins σ Q) X.xe s := by
  have hq := hs (s.heap.objs.size + 1) s.heap.objs.size (I.hok.fresh (Nat.le_succ _)) (I.hok.fresh (Nat.le_refl _)) (Nat.ne_of_lt (Nat.lt_succ_self _))
  have J := Inv.made (C := C) I
  have r1 : Vals (V.ref (s.heap.objs.size + 1) :: []) (Value.ref (s.heap.objs.size + 1) :: []) := .cons rfl .nil
  have r2 := pickI_vals (ix := ix) (r1.append (r.append hd))
  have gm : (gd = true → (X.A.under (.builtin "type.__call__" ⟨.ref C :: [], ks.zip ws⟩)).guards = some []) := fun z => by
    have := hg z
    first | exact this | simpa [Around.under, Around.guards] using this
  cases md with
  | true =>
    have tk : Takes X c.W := tk
    refine wpAny_call (make_map (f := f) I.kIn M.makes M.init (beq_iff_eq.mp M.fn) (codeAny_mono (h.run _ X.stack _ _ ⟨[Value.ref (s.heap.objs.size + 1)], ks.zip ws⟩ _ _ _ (WE c.W σ) gm (hr.make C [] (ks.zip ws))
      (J.env0.make C [] (ks.zip ws)) (hb _ [Value.ref (s.heap.objs.size + 1)] ws J.kIn rfl ew) r2 hq) fun r s' hq' => ?_))
    cases r with
    | error e => exact passAt tk σ pins _ _ e s' J hq'
    | ok fl =>
      cases fl with
      | ret u =>
        obtain ⟨v, H', I3, rv, ev, q3⟩ := J.after hq'
        subst ev
        exact ⟨rv, ⟨V.ref (s.heap.objs.size + 1), H', I3, rfl, q3⟩⟩
      | _ => exact False.elim hq'
  | false =>
    have tk : c.W = noW := tk
    rw [tk] at hq
    refine wpAny_call (make_map (f := f) I.kIn M.makes M.init (beq_iff_eq.mp M.fn) (codeAny_mono (h.run _ X.stack _ _ ⟨[Value.ref (s.heap.objs.size + 1)], ks.zip ws⟩ _ _ _ noE gm (hr.make C [] (ks.zip ws))
      (J.env0.make C [] (ks.zip ws)) (hb _ [Value.ref (s.heap.objs.size + 1)] ws J.kIn rfl ew) r2 hq) fun r s' hq' => ?_))
    cases r with
    | error e => exact False.elim hq'
    | ok fl =>
      cases fl with
      | ret u =>
        obtain ⟨v, H', I3, rv, ev, q3⟩ := J.after hq'
        subst ev
        exact ⟨rv, ⟨V.ref (s.heap.objs.size + 1), H', I3, rfl, q3⟩⟩
      | _ => exact False.elim hq'
theorem se_makeK (h : MakK gd md X.prog X.w X.K X.mg X.base c.cls k C ks dts ix F) (hg : gd = true → X.A.guards = some []) (hr : Room j X.A) (hk : k + 1 ≤ j) (tk : Pas md X c.W) (hgl : Gl X (PySem.Str.ofString C)) (hkw : SK c X kws lk) (hlen : kws.length = ks.length := by rfl)
    (hall : (backToKw pos (keywordEach kws X.env)).all (·.1.isSome) = true := by rfl) (hks : (backToKw pos (keywordEach kws X.env)).filterMap (·.1) = ks := by rfl)
    (hdb : (PySem.Str.ofString C == ("__debug__" : Str)) = false := by decide) (hpl : ((backTo pos (starEach [] X.env)).any (·.1) || (backToKw pos (keywordEach kws X.env)).any (·.1.isNone)) = false := by rfl) :
    SE c X (.Call (.Name (PySem.Str.ofString C) p) [] kws pos) (aMakeK C F dts ix lk) := by
  obtain ⟨f, fd, ps, ds, dvs, M, h1, hl, hix, hm, hd, vd, ik, b⟩ := h.ex
  refine ⟨fun pins s σ H Q I hq => ?_⟩
  refine wpAny_Call_Name_kw (ld_glob I hgl hm ?_ hdb)
  refine PySem.W.callWith_KW0 (h₀ := X.base) I.ok.mod.kin M.kp hall (thn (hkw.run pos pins s σ H (fun zs H1 => zs.length = ks.length ∧ ∀ x dx, H1 x = none → H1 dx = none → dx ≠ x → spA (go X c.cls) ps.length F (pickI ix ([.ref x] ++ (zs ++ dvs))) (upd (upd H1 dx (.own x)) x (.ins (ga X.K C) dx [])) (fun v H2 => v = .non ∧ Q (.ref x) H2) (fun cl d H => c.W cl d σ H)) I ?_) fun ws s2 ⟨zs, H2, I2, rz, ez, q2⟩ => ⟨I2.kIn, ?_⟩) hpl
  · obtain ⟨G, z, m, P, Fx, mr, sr, hl', kk⟩ := hq
    refine ⟨G, z, m, _, Fx, mr, sr, hl', kk.mv Stp.refl fun ts m1 G1 vs H1 p1 s1 r1 v1 => ⟨by rw [v1.2, hlen], fun x dx nx nd ne => ?_⟩⟩
    have sp := make_sp (F := fun ts m P Fx => F (pickI ix ts) m P Fx) (ps := List.replicate ((vs ++ dvs).length + 1) (PySem.Str.ofString "")) (by simp) ik vd kk s1 r1 v1.1 p1 x dx nx nd ne
    refine spA_pick sp ?_
    rw [hl]
    refine pickI_len fun i hi => ?_
    have := hix i hi
    have e1 := (vd G1 H1).length
    simp only [List.length_append, List.length_cons, List.length_nil, v1.2, hlen, e1]
    omega
  · rw [hks]
    exact runMakeK M h1 hg (hr.mono hk) tk b (by rw [← rz.length, ez]) hd I2 rz q2
end
/-! the promises by the defs -/
section
variable {gd : Bool} {P : Program} {w : World} {K : PySem.W.Frag} {mg : Str → Option Value} {base : Heap} {cls : List String} {k : Nat} {f : Addr} {fd : FuncData} {ps N : List Str} {x qual : Str} {params : Arguments} {body : List Stmt} {scope : Scope} {a : AS} {C : String} {md : Bool} {F : AF}
theorem metK (ks : List Str) (ix : List Nat) (h : ∃ fd, FunD K x qual params body scope [] [] f fd) (m : Meth K (ga K C) x f)
    (bd : ∀ (kV doc pm : Value) (an : Option Addr) (cdv ct : Value) (us ws : List Value), us.length = 1 → ws.length = ks.length → bindArgs (PySem.W.fnOf x qual params body scope .none kV doc pm an cdv ct) ⟨us, ks.zip ws⟩ = pure (ps.zip (pickI ix (us ++ ws)))) (hn : ps.length = ix.length) (hix : ∀ i ∈ ix, i < 1 + ks.length)
    (hf : ∀ fd, FunD K x qual params body scope [] [] f fd → Fa gd md P w K mg base cls k f fd ps F) : MetK gd md P w K mg base cls k C x ks ix F := by
  obtain ⟨fd, D⟩ := h
  refine ⟨f, fd, ps, m, hf fd D, hn, hix, fun s us ws _ h1 h2 => ?_⟩
  obtain ⟨oc, od, dV, kV, doc, pm, an, cdv, ct, osl, rfl, lk, hcd, hD, hK⟩ := D.ex
  rcases hD with ⟨_, rfl⟩ | ⟨e, _⟩
  · exact .of_eq (bd kV doc pm an cdv ct us ws h1 h2)
  · exact absurd rfl e
theorem makK {dvs : List V} {dts : List T} (ks : List Str) (ix : List Nat) (h : ∃ fd, FunD K x qual params body scope dvs [] f fd) (M : Mk K (ga K C) f) (g : mg (PySem.Str.ofString C) = some (.ref (ga K C))) (ik : InsK ⟨K, cls⟩ C []) (hd : dvs ≠ [])
    (bd : ∀ (T : Addr) (kV doc pm : Value) (an : Option Addr) (cdv ct : Value) (us its ws : List Value), us.length = 1 → its.length = dvs.length → ws.length = ks.length → ∃ k, bindArgs (PySem.W.fnOf x qual params body scope (.ref T) kV doc pm an cdv ct) ⟨us, ks.zip ws⟩ = seqItems? (.ref T) >>= k ∧ k (some its.toArray) = pure (ps.zip (pickI ix (us ++ (ws ++ its)))))
    (hn : ps.length = ix.length) (hix : ∀ i ∈ ix, i < 1 + (ks.length + dts.length)) (vd : ∀ G H, VRs ⟨K, cls⟩ G H dts dvs) (hf : ∀ fd, FunD K x qual params body scope dvs [] f fd → Fa gd md P w K mg base cls k f fd ps F) : MakK gd md P w K mg base cls k C ks dts ix F := by
  obtain ⟨fd, D⟩ := h
  have hF := hf fd D
  obtain ⟨oc, od, dV, kV, doc, pm, an, cdv, ct, osl, rfl, lk, hcd, hD, hK⟩ := D.ex
  rcases hD with ⟨e, _⟩ | ⟨_, T, o, its, m, rfl, lT, oT, rT⟩
  · exact absurd e hd
  · refine ⟨f, _, ps, its, dvs, M, hF, hn, hix, g, rT, vd, ik, fun s us ws X h1 h2 => ?_⟩
    obtain ⟨k', e1, e2⟩ := bd T kV doc pm an cdv ct us its ws h1 rT.length.symm h2
    refine BindsTo.of_looks fun M => ?_
    rw [e1]
    exact looks_items X lT oT (.of_pure e2)
theorem makD1 {n : Nat} {dvs : List V} {dts : List T} (h : ∃ fd, FunD K x qual params body scope dvs [] f fd) (M : Mk K (ga K C) f) (g : mg (PySem.Str.ofString C) = some (.ref (ga K C))) (ik : InsK ⟨K, cls⟩ C []) (q j : Nat) (hd : dvs ≠ []) (hq : q + (dvs.length - j) = ps.length)
    (bd : ∀ (T : Addr) (kV doc pm : Value) (an : Option Addr) (cdv ct : Value) (us its : List Value), us.length = q → its.length = dvs.length →
      ∃ k, bindArgs (PySem.W.fnOf x qual params body scope (.ref T) kV doc pm an cdv ct) ⟨us, []⟩ = seqItems? (.ref T) >>= k ∧ k (some its.toArray) = pure (ps.zip (us ++ its.drop j)))
    (hn : ps.length = 1 + n + dts.length) (vd : ∀ G H, VRs ⟨K, cls⟩ G H dts (dvs.drop j)) (hf : ∀ fd, FunD K x qual params body scope dvs [] f fd → Fa gd md P w K mg base cls k f fd ps F) : MakA gd md P w K mg base cls k C dts n F := by
  obtain ⟨fd, D⟩ := h
  obtain ⟨ds, h1, h2⟩ := D.binds1 q j hd hq bd
  exact ⟨f, fd, ps, ds, dvs.drop j, M, hf fd D, hn, g, h2, h1, vd, ik⟩
end
end AM
set_option maxHeartbeats 4000000
namespace AM
open PySem PySem.Spec PyProof.Rows L2 Eb
/-! ## repr, empty dicts within -/
mutual
def toM : T → PyData
  | .bl b => .bool b
  | .int i => .int i
  | .str l => .str (tx l)
  | .lst xs => .list (toMs xs)
  | .tup xs => .tuple (toMs xs)
  | .dct kvs => .dict (toMd kvs)
  | _ => .none
def toMs : List T → List PyData
  | [] => []
  | t :: ts => toM t :: toMs ts
def toMd : List (TK × T) → List (PyData × PyData)
  | [] => []
  | (k, t) :: r => ((match k with | .inl i => .int i | .inr l => .str (tx l)), toM t) :: toMd r
end
mutual
def ShM : Nat → T → Prop
  | _, .non => True
  | _, .bl _ => True
  | _, .int _ => True
  | _, .str _ => True
  | 0, .lst _ => False
  | 0, .tup _ => False
  | 0, .dct _ => False
  | n + 1, .lst xs => ShMs n xs
  | n + 1, .tup xs => ShMs n xs
  | n + 1, .dct kvs => ShMd n kvs
  | _, _ => False
def ShMs : Nat → List T → Prop
  | _, [] => True
  | n, t :: ts => ShM n t ∧ ShMs n ts
def ShMd : Nat → List (TK × T) → Prop
  | _, [] => True
  | n, (k, t) :: r => (∃ l, k = .inr l ∧ ∀ c ∈ l, c < 1114112) ∧ ShM n t ∧ ShMd n r
end
section
variable {n : Nat}
@[simp] theorem shm_non : ShM n .non := by cases n <;> simp [ShM]
@[simp] theorem shm_bl {b : Bool} : ShM n (.bl b) := by cases n <;> simp [ShM]
@[simp] theorem shm_int {b : Int} : ShM n (.int b) := by cases n <;> simp [ShM]
@[simp] theorem shm_str {b : List Nat} : ShM n (.str b) := by cases n <;> simp [ShM]
@[simp] theorem shm_dct {b : List (TK × T)} : ShM (n + 1) (.dct b) ↔ ShMd n b := by simp [ShM]
@[simp] theorem shmd_nil : ShMd n [] := by simp [ShMd]
@[simp] theorem shmd_cons {k : TK} {t : T} {b : List (TK × T)} : ShMd n ((k, t) :: b) ↔ (∃ l, k = .inr l ∧ ∀ c ∈ l, c < 1114112) ∧ ShM n t ∧ ShMd n b := by simp [ShMd]
@[simp] theorem shm_lst {b : List T} : ShM (n + 1) (.lst b) ↔ ShMs n b := by simp [ShM]
@[simp] theorem shm_tup {b : List T} : ShM (n + 1) (.tup b) ↔ ShMs n b := by simp [ShM]
@[simp] theorem shms_nil : ShMs n [] := by simp [ShMs]
@[simp] theorem shms_cons {t : T} {b : List T} : ShMs n (t :: b) ↔ ShM n t ∧ ShMs n b := by simp [ShMs]
variable {Γ : Gm} {G : Gh} {H : Hp} {P : Program} {w : World} {h : Heap}
mutual
theorem rdM (ok : HOk P w H h) (KX : Γ.K.In h) (sm : H sysModules = none) : ∀ {n : Nat} {t : T} {v : V} {u : Value}, ShM n t → VR Γ G H t v → RelV v u → (∃ as, Reads h u (toM t) as ∧ sysModules ∉ as) ∧ (toM t).depth ≤ n + 1 ∧ cOk (toM t).shown
  | n, .non, v, u, s, hv, r => by cases vr_non.mp hv; cases (show u = Value.none from r); exact ⟨⟨_, .none, by simp⟩, by simp [toM, PyData.depth], by simp only [toM]; exact ofString_ok _⟩
  | n, .bl b, v, u, s, hv, r => by cases vr_bl.mp hv; cases (show u = Value.bool b from r); exact ⟨⟨_, .bool b, by simp⟩, by simp [toM, PyData.depth], by simp only [toM, PyData.shown]; split <;> exact ofString_ok _⟩
  | n, .int i, v, u, s, hv, r => by cases vr_int.mp hv; obtain ⟨t, rfl⟩ := r; exact ⟨⟨_, .int i t, by simp⟩, by simp [toM, PyData.depth], by simp only [toM, PyData.shown]; exact ofString_ok _⟩
  | n, .str l, v, u, s, hv, r => by
    obtain ⟨rfl, sk⟩ := vr_str.mp hv
    obtain ⟨t, rfl⟩ := r
    exact ⟨⟨_, .str _ t, by simp⟩, by simp [toM, PyData.depth], by simp only [toM, PyData.shown]; exact reprText_ok fun c hc => sk.ok c (by rw [tx_list] at hc; exact hc)⟩
  | 0, .lst xs, v, u, s, hv, r => by simp [ShM] at s
  | 0, .tup xs, v, u, s, hv, r => by simp [ShM] at s
  | 0, .dct xs, v, u, s, hv, r => by simp [ShM] at s
  | n + 1, .lst xs, v, u, s, hv, r => by
    obtain ⟨a, us, rfl, _, ha, h4⟩ := vr_lst.mp hv
    cases (show u = Value.ref a from r)
    obtain ⟨_, its, k, rv, e⟩ := (show ObjOk P w H h a (.lst us) from ok a _ ha)
    obtain ⟨⟨as, q, nm⟩, dp, ck⟩ := rdMs ok KX sm (shm_lst.mp s) h4 rv
    refine ⟨⟨_, .list e rfl rfl (by simpa using q), fun m => (List.mem_cons.mp m).elim (fun y => by rw [y, ha] at sm; cases sm) nm⟩, by simp only [toM, PyData.depth]; omega, ?_⟩
    simp only [toM, PyData.shown]
    exact (textFrom_ok _ 0 _ (ofString_ok _) ck).app (ofString_ok _)
  | n + 1, .tup xs, v, u, s, hv, r => by
    obtain ⟨a, us, rfl, ha, h4⟩ := rdT (.inl hv) (ts := xs) rfl
    cases (show u = Value.ref a from r)
    have at_ : ∃ (its : List Value) (o : Obj) (k : Nat), Vals us its ∧ h.get? a = some o ∧ o.cls = .type "tuple" ∧ o.data = .seq its.toArray k := by
      rcases ha with q | ⟨o, its, k, e, hc, hd, _, hv⟩
      · obtain ⟨_, its, hv, o, e, hc, k, hd⟩ := (show ObjOk P w H h a (.tup us) from q.ok ok)
        exact ⟨its, o, k, hv, e, hc, hd⟩
      · exact ⟨its.toList, o, k, hv, KX _ _ e, hc, by simp [hd]⟩
    obtain ⟨its, o, k, rv, e, hc, hd⟩ := at_
    obtain ⟨⟨as, q, nm⟩, dp, ck⟩ := rdMs ok KX sm (shm_tup.mp s) h4 rv
    refine ⟨⟨_, .tuple e hc hd (by simpa using q), nm⟩, by simp only [toM, PyData.depth]; omega, ?_⟩
    simp only [toM, PyData.shown]
    exact cOk.app (cOk.app (ofString_ok _) (join_ok (ofString_ok _) _ ck)) (ofString_ok _)
  | n + 1, .dct kvs, v, u, s, hv, r => by
    obtain ⟨a, us, rfl, _, ha, hd⟩ := vr_dct.mp hv
    cases (show u = Value.ref a from r)
    obtain ⟨_, ns, vs, kv, o, es, ep, e, ex, dt, _, pr, _⟩ := (show ObjOk P w H h a (.dK us) from ha.ok ok)
    obtain ⟨⟨as, q1, n1⟩, ⟨bs, q2, n2⟩, dp, ck⟩ := rdMd ok KX sm (shm_dct.mp s) hd kv pr
    have na : a ≠ sysModules := by simpa using ns
    refine ⟨⟨a :: as ++ bs, .dict e ex.1 dt q1 q2, ?_⟩, by simp only [toM, PyData.depth]; omega, ?_⟩
    · rw [List.mem_append, List.mem_cons]
      exact fun z => z.elim (fun z => z.elim (fun e => na e.symm) n1) n2
    · simp only [toM, PyData.shown]
      exact cOk.app (cOk.app (ofString_ok _) (join_ok (ofString_ok _) _ ck)) (ofString_ok _)
  | n, .cst _, v, u, s, hv, r => by cases n <;> simp [ShM] at s
  | n, .scr _, v, u, s, hv, r => by cases n <;> simp [ShM] at s
  | n, .ins _ _, v, u, s, hv, r => by cases n <;> simp [ShM] at s
  | n, .obj _, v, u, s, hv, r => by cases n <;> simp [ShM] at s
  | n, .kr _ _, v, u, s, hv, r => by cases n <;> simp [ShM] at s
  | n, .exc _ _ _ _, v, u, s, hv, r => by cases n <;> simp [ShM] at s
theorem rdMs (ok : HOk P w H h) (KX : Γ.K.In h) (sm : H sysModules = none) : ∀ {n : Nat} {ts : List T} {vs : List V} {us : List Value}, ShMs n ts → VRs Γ G H ts vs → Vals vs us → (∃ as, ReadsAll h us (toMs ts) as ∧ sysModules ∉ as) ∧ PyData.depthAll (toMs ts) ≤ n + 1 ∧ ∀ x ∈ PyData.shownAll (toMs ts), cOk x
  | n, [], vs, us, s, hv, r => by
    cases vrs_nil.mp hv
    cases r
    exact ⟨⟨_, .nil, by simp⟩, by simp [toMs, PyData.depthAll], by simp only [toMs, PyData.shownAll]; intro x hx; cases hx⟩
  | n, t :: ts, vs, us, s, hv, r => by
    obtain ⟨v, r', rfl, h1, h2⟩ := vrs_cons.mp hv
    cases r with
    | cons r1 r2 =>
      obtain ⟨⟨as, q1, n1⟩, d1, c1⟩ := rdM ok KX sm (shms_cons.mp s).1 h1 r1
      obtain ⟨⟨bs, q2, n2⟩, d2, c2⟩ := rdMs ok KX sm (shms_cons.mp s).2 h2 r2
      refine ⟨⟨_, .cons q1 q2, by rw [List.mem_append]; exact fun z => z.elim n1 n2⟩, by simp only [toMs, PyData.depthAll]; omega, ?_⟩
      simp only [toMs, PyData.shownAll]
      intro x hx
      rcases List.mem_cons.mp hx with e | e
      · rw [e]; exact c1
      · exact c2 x e
theorem rdMd (ok : HOk P w H h) (KX : Γ.K.In h) (sm : H sysModules = none) : ∀ {n : Nat} {kvs : List (TK × T)} {us : List (Key × V)} {vs : List (Key × Value)} {es : List DictEntry}, ShMd n kvs → VRd Γ G H kvs us → KV us vs → Pairs (mixKind P w) es vs →
    (∃ as, ReadsAll h (es.map (·.key)) ((toMd kvs).map (·.1)) as ∧ sysModules ∉ as) ∧ (∃ bs, ReadsAll h (es.map (·.val)) ((toMd kvs).map (·.2)) bs ∧ sysModules ∉ bs) ∧ PyData.depthKv (toMd kvs) ≤ n + 1 ∧ ∀ x ∈ PyData.shownKv (toMd kvs), cOk x
  | n, [], us, vs, es, s, hv, kv, pr => by
    cases vrd_nil.mp hv
    cases kv
    cases pr
    exact ⟨⟨_, .nil, by simp⟩, ⟨_, .nil, by simp⟩, by simp [toMd, PyData.depthKv], by simp only [toMd, PyData.shownKv]; intro x hx; cases hx⟩
  | n, (k, t) :: kvs, us, vs, es, s, hv, kv, pr => by
    obtain ⟨v, r', rfl, h1, h2⟩ := vrd_cons.mp hv
    obtain ⟨⟨l, rfl, hl⟩, s1, s2⟩ := shmd_cons.mp s
    cases kv with
    | cons k1 k2 =>
      cases pr with
      | cons p1 p2 p3 =>
        obtain ⟨⟨as, q1, n1⟩, ⟨bs, q2, n2⟩, d, c⟩ := rdMd ok KX sm s2 h2 k2 p3
        obtain ⟨e1, e2⟩ := k1
        obtain ⟨⟨cs, q3, n3⟩, d3, c3⟩ := rdM ok KX sm s1 h1 e2
        have p1 := (show keyIs _ _ = true from p1)
        rw [← e1] at p1
        rcases keyIs_shape p1 with ⟨i, t', z, _⟩ | ⟨y, t', z, hy⟩
        · cases z
        · cases z
          refine ⟨⟨[] ++ as, ?_, by simpa using n1⟩, ⟨cs ++ bs, ?_, by rw [List.mem_append]; exact fun z => z.elim n3 n2⟩, ?_, ?_⟩
          · simp only [toMd, List.map_cons]
            rw [hy]
            exact .cons (.str _ _) q1
          · simp only [toMd, List.map_cons]
            rw [p2]
            exact .cons q3 q2
          · simp only [toMd, PyData.depthKv, PyData.depth]
            omega
          · simp only [toMd, PyData.shownKv]
            intro x hx
            rcases List.mem_cons.mp hx with e | e
            · rw [e]
              simp only [PyData.shown]
              exact cOk.app (cOk.app (reprText_ok fun c hc => hl c (by rw [tx_list] at hc; exact hc)) (ofString_ok _)) c3
            · exact c x e
end
end
theorem W_repM : ∃ f : T → List Nat, f = fun t => (toM t).shown.cps.toList := ⟨_, rfl⟩
noncomputable def repM : T → List Nat := Classical.choose W_repM
theorem repM_eq (t : T) : repM t = (toM t).shown.cps.toList := congrFun (Classical.choose_spec W_repM) t
structure ShwM (t : T) : Prop where
  sh : (toM t).showable = true
  sz : (repM t).length ≤ sizeLine
@[simp] noncomputable def repMA : AL := fun xs m P => match xs with | [x] => ShM 60 x ∧ ShwM x ∧ P (.str (repM x)) m | _ => False
def rRepM (Γ : Gm) : List V → Hp → VK → Prop := fun xs H Q => ∃ (v : V) (t : T) (G : Gh), xs = [v] ∧ VB Γ G H t v ∧ ShM 60 t ∧ ShwM t ∧ (SOk (repM t) → Q (.str (tx (repM t))) H)
theorem call_repM {X : Cx} {cls : List String} {k : Nat} (sm : ∃ o, X.K.lookup sysModules = some o) (g : X.A.guards = some []) (hr : Room k X.A) : CallR X (.builtin "repr") (rRepM ⟨X.K, cls⟩) := by
  intro pins s σ H xs us Q I r h
  obtain ⟨v, t, G, rfl, hv, S1, S2, q⟩ := h
  obtain ⟨u, rfl, e⟩ := vals1 r
  obtain ⟨o, ho⟩ := sm
  have hs : H sysModules = none := (I.env0.bs _ _ (I.env0.mod.kin _ _ ho)).2
  have key : (∃ as, Reads s.heap u (toM t) as ∧ sysModules ∉ as) ∧ (toM t).depth ≤ 61 ∧ cOk (toM t).shown := by
    rcases hv with hv | ⟨a, rfl, _, hv⟩
    · exact rdM I.hok I.kIn hs S1 hv e
    · cases (show u = Value.ref a from e)
      cases t with
      | lst ts =>
        obtain ⟨ws, ha, h4⟩ := hv
        obtain ⟨_, its, n, rv, e⟩ := (show ObjOk X.prog X.w H s.heap a (.lst ws) from I.hok a _ ha)
        obtain ⟨⟨as, rd, nm⟩, dp, ck⟩ := rdMs I.hok I.kIn hs (shm_lst.mp S1) h4 rv
        refine ⟨⟨a :: as, by simp only [toM]; exact .list e rfl rfl (by simpa using rd), fun m => (List.mem_cons.mp m).elim (fun y => by rw [y, ha] at hs; cases hs) nm⟩, by simp only [toM, PyData.depth]; omega, ?_⟩
        simp only [toM, PyData.shown]
        exact (textFrom_ok _ 0 _ (ofString_ok _) ck).app (ofString_ok _)
      | dct kvs =>
        obtain ⟨ws, ha, hd⟩ := hv
        obtain ⟨_, ns, vs, kv, o, es, ep, e, ex, dt, _, pr, _⟩ := (show ObjOk X.prog X.w H s.heap a (.dK ws) from I.hok a _ ha)
        obtain ⟨⟨as, q1, n1⟩, ⟨bs, q2, n2⟩, dp, ck⟩ := rdMd I.hok I.kIn hs (shm_dct.mp S1) hd kv pr
        have na : a ≠ sysModules := by simpa using ns
        refine ⟨⟨a :: as ++ bs, .dict e ex.1 dt q1 q2, ?_⟩, by simp only [toM, PyData.depth]; omega, ?_⟩
        · rw [List.mem_append, List.mem_cons]
          exact fun z => z.elim (fun z => z.elim (fun e => na e.symm) n1) n2
        · simp only [toM, PyData.shown]
          exact cOk.app (cOk.app (ofString_ok _) (join_ok (ofString_ok _) _ ck)) (ofString_ok _)
      | _ => exact hv.elim
  obtain ⟨⟨as, rd, nm⟩, dp, ck⟩ := key
  have hl : (toM t).shown.length = (repM t).length := by rw [repM_eq]; simp [Str.length]
  have et : (toM t).shown = tx (repM t) := by rw [repM_eq]; exact (tx_of _).symm
  have hz : (toM t).shown.length ≤ sizeLine := by rw [hl]; exact S2.sz
  have q := q ⟨S2.sz, fun c hc => ck c (by rw [repM_eq] at hc; exact hc)⟩
  rw [← et] at q
  have sh := S2.sh
  have un := hr.un
  have fin : ∀ (x : Str) tk, x = (toM t).shown → EP X pins σ Q (.str x tk) { s with toks := s.toks + 1 } := fun x tk ex => by
    subst ex
    exact ⟨.str (toM t).shown, H, I.kept fun _ _ z => z, ⟨tk, rfl⟩, q⟩
  generalize hd : toM t = d at *
  cases rd with
  | none => exact PySem.P.repr_of_none (fin _ _ rfl)
  | bool b => exact PySem.P.repr_of_bool (fin _ _ rfl)
  | int i tk => exact PySem.P.repr_of_int (of_decide_eq_true (by simpa [PyData.showable] using sh)) (fin _ _ rfl)
  | str x tk => exact PySem.P.repr_of_str (fin _ _ rfl) hz
  | list h1 h2 h3 h4 =>
    refine repr_of_reads' (.list h1 h2 h3 h4) sh (fun _ => nm) g (by omega) (fun _ _ e => e) (fun h' t tk hk => ?_) hz
    exact ⟨V.str _, H, I.kept hk, ⟨t, rfl⟩, q⟩
  | tuple h1 h2 h3 h4 =>
    refine repr_of_reads' (.tuple h1 h2 h3 h4) sh (fun _ => nm) g (by omega) (fun _ _ e => e) (fun h' t tk hk => ?_) hz
    exact ⟨V.str _, H, I.kept hk, ⟨t, rfl⟩, q⟩
  | dict h1 h2 h3 h4 h5 =>
    refine repr_of_reads' (.dict h1 h2 h3 h4 h5) sh (fun _ => nm) g (by omega) (fun _ _ e => e) (fun h' t tk hk => ?_) hz
    exact ⟨V.str _, H, I.kept hk, ⟨t, rfl⟩, q⟩
theorem sim_repM {Γ : Gm} : SimL Γ (rRepM Γ) repMA := by
  intro G m H x v P Q r hx h k
  unfold repMA at h
  split at h
  · rename_i t
    obtain ⟨v, rfl, h1⟩ := vbs1 hx
    obtain ⟨hs, hw, p⟩ := h
    exact ⟨v, t, G, rfl, h1, hs, hw, fun ok => k _ m G _ H p Stp.refl r (vr_str.mpr ⟨rfl, ok⟩)⟩
  · exact h.elim
end AM
set_option maxHeartbeats 4000000
namespace AM
open PySem PySem.Spec PyProof.Rows L2 Eb
theorem by1_of {gd : Bool} {P : Program} {w : World} {K : PySem.W.Frag} {mg : Str → Option Value} {base : Heap} {cls : List String} {k : Nat} {f : Addr} {N : List Str} {qual : Str} {body : List Stmt} {scope : Scope} {a : AS}
    (h : ∀ (cdv : Value) (A : Around) (outer : List Env) (s : Shared) (H : Hp) (E : XK) (X : Cx), X = cxOf (L2.CX P w) P w K mg base N qual scope f cdv A outer s H E → (gd = true → X.A.guards = some []) → Room k X.A → Takes X (fun cl d _ H => E cl d H) → PassesOwn (model X.prog X.w) X.A X.env X.xe → S2 ⟨cls, fun cl d _ H => E cl d H⟩ X body a) :
    By1 gd P w K mg base cls k f N qual body scope a := fun cdv A outer s H E X hX hg hr => h cdv A outer s H E _ rfl (by subst hX; exact hg) (by subst hX; exact hr) (takes_of rfl rfl rfl rfl) (passes_of rfl)
theorem em_l {anc : String → List String} {K : PySem.W.Frag} {xs ys : List String} {l : List (String × (Addr → Addr → AS))} (h : ∀ x ∈ xs, ∀ y ∈ ys, PySem.W.exmOne K (.ref (ga K x)) (.ref (ga K y)) = some (subC anc x y)) (hl : (l.map (·.1)).all (ys.contains ·) = true) :
    ∀ x ∈ xs, ∀ p ∈ l, PySem.W.exmOne K (.ref (ga K x)) (.ref (ga K p.1)) = some (subC anc x p.1) := fun x hx p hp => h x hx p.1 (by
  have := List.all_eq_true.mp hl p.1 (List.mem_map.mpr ⟨p, hp, rfl⟩)
  simpa using this)
def emB (anc : String → List String) (xs ys : List String) (K : PySem.W.Frag) : Bool := xs.all fun x => ys.all fun y => decide (PySem.W.exmOne K (.ref (ga K x)) (.ref (ga K y)) = some (subC anc x y))
theorem emB_ok {anc : String → List String} {xs ys : List String} {K : PySem.W.Frag} (h : emB anc xs ys K = true) : ∀ x ∈ xs, ∀ y ∈ ys, PySem.W.exmOne K (.ref (ga K x)) (.ref (ga K y)) = some (subC anc x y) := fun x hx y hy =>
  of_decide_eq_true (List.all_eq_true.mp (List.all_eq_true.mp h x hx) y hy)
def smB (K : PySem.W.Frag) : Bool := (K.lookup sysModules).isSome
theorem smB_ok {K : PySem.W.Frag} (h : smB K = true) : ∃ o, K.lookup sysModules = some o := Option.isSome_iff_exists.mp h
@[simp] def aDict0 : AE := fun z m P _ => P (.dct []) m
theorem sf_dict0 {c : Cl} {X : Cx} {pos : Pos} : SF c X (.Dict [] [] pos) aDict0 := pe_weak pe_dnewK fun σ H Q ⟨G, z, m, P, F, mr, sr, h, k⟩ => fun p np => (fsh_of k Stp.refl (fun _ h => h) mr).2 [] [] p h (vrd_nil.mpr rfl) np
end AM
set_option maxHeartbeats 4000000
namespace AM
open PySem PySem.Spec PyProof.Rows L2 Eb
/-! ## methods whose value is new -/
section
variable {X : Cx} {cls : List String} {e : Expr} {b : AE} {pos : Pos}
theorem s1_fresh (h2 : SF ⟨cls, noW⟩ X e b) : PSs X [.Return (some e) pos] (sRF (go X cls) (sRet b)) :=
  pss_weak (pss_one (ps_ret h2)) fun E σ H ⟨G, z, m, D, mr, sr, h, k⟩ =>
    ⟨G, z, m, D.rt, D.ex z, mr, sr, h, ⟨fun t m' G' p H' pt s np r rt => k.rt t m m' G G' p H H' pt Stp.refl.ss mr s np r rt, fun x m' G' H' c d h1 h2 h3 h4 => (k.ex z x m' G' H' c d h1 h2.ss h3 h4).elim⟩⟩
end
section
variable {gd : Bool} {P : Program} {w : World} {K : PySem.W.Frag} {mg : Str → Option Value} {base : Heap} {cls : List String} {k : Nat} {f : Addr} {ps N : List Str} {x qual : Str} {params : Arguments} {body : List Stmt} {scope : Scope} {a : AS}
structure MetF (gd : Bool) (P : Program) (w : World) (K : PySem.W.Frag) (mg : Str → Option Value) (base : Heap) (cls : List String) (k : Nat) (C : String) (m : Str) (F : AF) : Prop where
  ex : ∃ (f : Addr) (fd : FuncData) (ps : List Str), Meth K (ga K C) m f ∧ FaF gd P w K mg base cls k f fd ps F ∧ ps.length = 1 ∧ Binds K fd ps []
theorem metF {C : String} (h : ∃ fd, FunD K x qual params body scope [] [] f fd) (m : Meth K (ga K C) x f) (S : FnScope N ps scope) (bd : Bd x qual params body scope ps) (hn : ps.length = 1) (hb : ByF gd P w K mg base cls k f N qual body scope a) : MetF gd P w K mg base cls (k + 1) C x (fB N.length a) := by
  obtain ⟨fd, F⟩ := h
  exact ⟨f, fd, ps, m, faF F S hb, hn, F.bindsN bd⟩
end
section
variable {gd : Bool} {c : Cl} {X : Cx} {k j n : Nat} {C : String} {F : AF} {m : Str} {pos apos : Pos} {o : Expr} {a : AE}
theorem sf_meth0 {pl : Sem Bool} (h : MetF gd X.prog X.w X.K X.mg X.base c.cls k C m F) (hg : gd = true → X.A.guards = some []) (hr : Room j X.A) (hk : k ≤ j) (tk : c.W = noW) (ho : SE c X o a)
    (ht : eval (.Call (.Attribute o m apos) [] [] pos) X.env = (do
      let ov ← eval o X.env
      standAt apos.atName
      let (f, first) ← holding [ov] (getMethod ov m pl)
      callWith pos f first (backTo pos (starEach [] X.env)) (backToKw pos (keywordEach [] X.env))) := by rfl) :
    SF c X (.Call (.Attribute o m apos) [] [] pos) (aMeth C F [] a aNil) := by
  obtain ⟨f, fd, ps, hm, h1, hlen, b⟩ := h.ex
  refine ⟨fun pins s σ H Q I hq => ?_⟩
  obtain ⟨G, z, m0, P, Fx, mr, sr, hl, kk⟩ := hq
  refine PySem.W.methodCall_KW (pl := pl) (thn (ho.run pins s σ H (fun x H1 => ∃ (a : Addr) (dx : Addr) (us : List (Str × V)), x = .ref a ∧ H1 a = some (.ins (ga X.K C) dx us) ∧ Cls X.K (ga X.K C) ∧ us.lookup m = none ∧
    spF (go X c.cls) ps.length F [.ref a] H1 Q) I ?_) fun u s1 ⟨x, H1, I1, rx, a, dx, us, ex, ea, cl, lk, q⟩ => ?_) ht
  · refine ⟨G, z, m0, _, Fx, mr, sr, hl, ⟨fun o1 m1 G1 v1 H1 p1 s1 r1 b1 => ?_, kk.ex⟩⟩
    obtain ⟨hc, p1⟩ := p1
    obtain ⟨⟨C', fs⟩, e1, e2⟩ := Option.map_eq_some_iff.mp hc
    cases (show C' = C from e2)
    obtain ⟨a, dx, us, rfl, ha, ik, vf⟩ := rdI r1 (.inl b1) e1
    refine ⟨a, dx, us, rfl, ha, ik.cl, ik.nometh (f := f) (meth_found hm) vf, ?_⟩
    exact call_spF tk (by rw [hlen]; rfl) kk s1 r1 (vrs_cons.mpr ⟨_, _, rfl, b1, vrs_nil.mpr rfl⟩) p1
  · subst ex
    obtain rfl : u = Value.ref a := rx
    refine getmeth_ok I1 ea cl hm lk ?_
    refine PySem.W.callWith_K0 (first := [.ref a]) I1.kIn hm.kp ?_
    refine wpAny_call (codeAny_mono (h1.run X.A X.stack s1 H1 ⟨[.ref a], []⟩ [.ref a] [.ref a] Q noE hg (hr.mono hk) I1.env0 (by have := b s1 [.ref a] I1.kIn; simpa using this (by simpa using hlen.symm)) (.cons rfl .nil) q) fun rr s' hq => ?_)
    cases rr with
    | error e => exact False.elim hq
    | ok fl => cases fl <;> first | exact I1.after hq | exact False.elim hq
end
end AM
set_option maxHeartbeats 4000000
namespace AM
open PySem PySem.Spec PyProof.Rows L2 Eb
/-! ## loops over numbers, by the number of the turn -/
section
variable {ok : Mem → Prop} {g : AGt} {p : AS} {D : EA} {lo : Int} {n : Nat}
theorem range'_split {i n : Nat} (h : i < n) : List.range' i (n - i) = i :: List.range' (i + 1) (n - (i + 1)) := by
  rw [show n - i = (n - (i + 1)) + 1 by omega, List.range'_succ]
theorem forR (J : Nat → SS → Mem → Prop)
    (hs : ∀ i z m, i < n → J i z m → ok m ∧ ∀ N : SS → Mem → Prop, (∀ z m, J (i + 1) z m → N z m) → g (.int (lo + (i : Int))) z m (fun z1 m1 => p { D with nx := N, ct := N, bk := D.nx } z1 m1) D.ex)
    (he : ∀ z m, J n z m → ok m ∧ D.nx z m) {z : SS} {m : Mem} (h : J 0 z m) : sFor1 ok g p D (rngT lo n) z m := by
  unfold rngT
  refine forJ (fun i : Nat => T.int (lo + (i : Int))) (fun r z m => ∃ i, i ≤ n ∧ r = List.range' i (n - i) ∧ J i z m) (fun x r z m hj => ?_) (fun z m hj => ?_) (List.range n) z m ⟨0, Nat.zero_le _, by rw [List.range_eq_range']; simp, h⟩
  · obtain ⟨i, hi, e, hj⟩ := hj
    have hin : i < n := by
      rcases Nat.lt_or_ge i n with q | q
      · exact q
      · rw [show n - i = 0 by omega] at e; cases e
    rw [range'_split hin] at e
    cases e
    obtain ⟨h1, h2⟩ := hs x z m hin hj
    exact ⟨h1, fun N hN => h2 N fun z m h => hN z m ⟨x + 1, by omega, rfl, h⟩⟩
  · obtain ⟨i, hi, e, hj⟩ := hj
    have : i = n := by
      rcases Nat.lt_or_ge i n with q | q
      · rw [range'_split q] at e; cases e
      · omega
    subst this
    exact he z m hj
end
section
variable {ok : Mem → Prop} {g : ACt} {vs : List Nat} {tt : AT} {e : AE} {z : SS} {P : PX} {lo : Int} {n : Nat}
theorem lcR (J : Nat → List T → Mem → Prop)
    (hs : ∀ i acc m, i < n → J i acc m → ok m ∧ ∀ (Y : PX) (N : Mem → Prop), (∀ y m', J (i + 1) (acc ++ [y]) m' → Y y m') → (∀ m', J (i + 1) acc m' → N m') → g (.int (lo + (i : Int))) (wipeA z vs) (fun z1 => tt z1 m (fun k m2 => if k = true then e z1 m2 Y (fun _ _ => False) else N m2) (fun _ _ => False)))
    (hz : ∀ i acc m, i ≤ n → J i acc m → acc.length < sizeLine) (he : ∀ acc m, J n acc m → ok m ∧ P (.lst acc) m) {m : Mem} (h : J 0 [] m) : aLc1 ok g vs tt e z P [] (rngT lo n) m := by
  unfold rngT
  refine lcJ (fun i : Nat => T.int (lo + (i : Int))) (fun r acc m => ∃ i, i ≤ n ∧ r = List.range' i (n - i) ∧ J i acc m) (fun x r acc m hj => ?_) (fun r acc m hj => ?_) (fun acc m hj => ?_) (List.range n) [] m ⟨0, Nat.zero_le _, by rw [List.range_eq_range']; simp, h⟩
  · obtain ⟨i, hi, e, hj⟩ := hj
    have hin : i < n := by
      rcases Nat.lt_or_ge i n with q | q
      · exact q
      · rw [show n - i = 0 by omega] at e; cases e
    rw [range'_split hin] at e
    cases e
    obtain ⟨h1, h2⟩ := hs x acc m hin hj
    exact ⟨h1, fun Y N h3 h4 => h2 Y N (fun y m' q => h3 y m' ⟨x + 1, by omega, rfl, q⟩ (hz x acc m hi hj)) fun m' q => h4 m' ⟨x + 1, by omega, rfl, q⟩⟩
  · obtain ⟨i, hi, e, hj⟩ := hj
    exact hz i acc m hi hj
  · obtain ⟨i, hi, e, hj⟩ := hj
    have : i = n := by
      rcases Nat.lt_or_ge i n with q | q
      · rw [range'_split q] at e; cases e
      · omega
    subst this
    exact he acc m hj
end
/-! ## values of the language's own kinds -/
def Bas : T → Prop
  | .non => True
  | .bl _ => True
  | .int _ => True
  | .str _ => True
  | .lst _ => True
  | .tup _ => True
  | .dct _ => True
  | _ => False
def cntT : T → Bool
  | .int i => decide (0 ≤ i)
  | _ => false
/-! ## how long repr's text is, empty dicts within -/
structure Sz (d : PyData) (n : Nat) : Prop where
  sh : d.showable = true
  sz : d.shown.length ≤ n
structure SzA (ds : List PyData) (n : Nat) : Prop where
  sh : PyData.showableAll ds = true
  sz : ((PyData.shownAll ds).map (·.length)).sum ≤ n
theorem Sz.le {d : PyData} {n m : Nat} (h : Sz d n) (h1 : n ≤ m) : Sz d m := ⟨h.sh, Nat.le_trans h.sz h1⟩
theorem Sz.of {d : PyData} {n k : Nat} (h : Sh d n k) : Sz d n := ⟨h.sh, h.sz⟩
theorem sza_nil : SzA [] 0 := ⟨rfl, by decide⟩
theorem sza_cons {d : PyData} {ds : List PyData} {n m : Nat} (h : Sz d n) (t : SzA ds m) : SzA (d :: ds) (n + m) := by
  refine ⟨?_, ?_⟩
  · simp [PyData.showableAll, h.sh, t.sh]
  · simp only [PyData.shownAll, List.map_cons, List.sum_cons]
    have := h.sz; have := t.sz; omega
theorem sz_list {ds : List PyData} {n : Nat} (h : SzA ds n) : Sz (.list ds) (n + 2 * ds.length + 3) := by
  refine ⟨h.sh, ?_⟩
  have := listText_len_le (PyData.shownAll ds)
  rw [shownAll_length] at this
  have := h.sz
  show (listText (PyData.shownAll ds)).length ≤ _
  omega
theorem sz_tup {ds : List PyData} {n : Nat} (h : SzA ds n) : Sz (.tuple ds) (n + 2 * ds.length + 3) := by
  refine ⟨h.sh, ?_⟩
  have := tupleText_len_le (PyData.shownAll ds)
  rw [shownAll_length] at this
  have := h.sz
  show (tupleText (PyData.shownAll ds)).length ≤ _
  omega
theorem sz_dict0 : Sz (.dict []) 2 := ⟨rfl, by decide +kernel⟩
/-- it may be shown within a list -/
structure OkM (x : T) : Prop where
  shp : ShM 59 x
  sz : Sz (toM x) 40000
theorem okm_non : OkM .non := ⟨by simp, (Sz.of sh_none).le (by decide)⟩
theorem okm_bl {b : Bool} : OkM (.bl b) := ⟨by simp, (Sz.of (sh_bool b)).le (by decide)⟩
theorem okm_nat {n : Nat} (h : n < 2 ^ 1900) : OkM (.int n) := ⟨by simp, (Sz.of (sh_int n (k := 1900) (by decide) (by decide) h)).le (by decide)⟩
theorem okm_str {s : List Nat} (hs : s.length ≤ 300) (hc : ∀ c ∈ s, c < 128) : OkM (.str s) := ⟨by simp, by
  have e := Sz.of (sh_str (tx s) (by rw [tx_list]; exact hc))
  rw [tx_len] at e
  exact e.le (by omega)⟩
theorem okm_dct : OkM (.dct []) := ⟨by simp, by simp only [toM, toMd]; exact sz_dict0.le (by decide)⟩
theorem sz_dict1 {k v : PyData} {n m : Nat} (hk : Sz k n) (hv : Sz v m) : Sz (.dict [(k, v)]) (n + m + 7) := by
  refine ⟨by simp [PyData.showable, PyData.showableKv, hk.sh, hv.sh], ?_⟩
  have := dictText_len_le (PyData.shownKv [(k, v)])
  have h1 := hk.sz
  have h2 := hv.sz
  have e : (": " : Str).length = 2 := by decide +kernel
  simp only [PyData.shown]
  simp only [PyData.shownKv, List.map_cons, List.map_nil, List.sum_cons, List.sum_nil, List.length_cons, List.length_nil, strLen_append, e] at this ⊢
  omega
theorem okm_dct1 {s r : List Nat} (hs : s.length ≤ 100) (hc : ∀ c ∈ s, c < 128) (hs2 : r.length ≤ 100) (hc2 : ∀ c ∈ r, c < 128) : OkM (.dct [(.inr s, .str r)]) := ⟨by simp only [shm_dct, shmd_cons, shmd_nil, shm_str, and_true]; exact ⟨s, rfl, fun c h => Nat.lt_of_lt_of_le (hc c h) (by decide)⟩, by
  have e := Sz.of (sh_str (tx s) (by rw [tx_list]; exact hc))
  have e2 := Sz.of (sh_str (tx r) (by rw [tx_list]; exact hc2))
  rw [tx_len] at e e2
  simp only [toM, toMd]
  exact (sz_dict1 e e2).le (by omega)⟩
theorem okm_lst0 : OkM (.lst []) := ⟨by simp, by simp only [toM, toMs]; exact (sz_list sza_nil).le (by decide)⟩
theorem okm_lst1 {s : List Nat} (hs : s.length ≤ 300) (hc : ∀ c ∈ s, c < 128) : OkM (.lst [.str s]) := ⟨by simp, by
  have e := Sz.of (sh_str (tx s) (by rw [tx_list]; exact hc))
  rw [tx_len] at e
  simp only [toM, toMs]
  exact (sz_list (sza_cons e sza_nil)).le (by simp; omega)⟩
theorem okm_tup1 {s : List Nat} (hs : s.length ≤ 300) (hc : ∀ c ∈ s, c < 128) : OkM (.tup [.str s]) := ⟨by simp, by
  have e := Sz.of (sh_str (tx s) (by rw [tx_list]; exact hc))
  rw [tx_len] at e
  simp only [toM, toMs]
  exact (sz_tup (sza_cons e sza_nil)).le (by simp; omega)⟩
theorem okm_lstI {i : Nat} (h : i < 2 ^ 1900) : OkM (.lst [.int i]) := ⟨by simp, by
  simp only [toM, toMs]
  exact (sz_list (sza_cons (Sz.of (sh_int i (k := 1900) (by decide) (by decide) h)) sza_nil)).le (by simp)⟩
theorem okm_neg {i : Int} (h : (PyData.int i).showable = true) (h2 : (PyData.int i).shown.length ≤ 40000) : OkM (.int i) := ⟨by simp, h, h2⟩
theorem okm_tup0 : OkM (.tup []) := ⟨by simp, by simp only [toM, toMs]; exact (sz_tup sza_nil).le (by decide)⟩
theorem toM_len : ∀ xs : List T, (toMs xs).length = xs.length
  | [] => by rw [toMs]; rfl
  | x :: xs => by rw [toMs, List.length_cons, List.length_cons, toM_len xs]
theorem szm_of {B : Nat} : ∀ {xs : List T}, (∀ x ∈ xs, Sz (toM x) B) → SzA (toMs xs) (B * xs.length)
  | [], _ => by rw [toMs]; exact sza_nil
  | x :: xs, h => by
    have := sza_cons (h x List.mem_cons_self) (szm_of fun y hy => h y (List.mem_cons_of_mem _ hy))
    rw [toMs, List.length_cons, show B * (xs.length + 1) = B + B * xs.length by rw [Nat.mul_add]; omega]
    exact this
theorem shms_of {n : Nat} : ∀ {xs : List T}, (∀ x ∈ xs, ShM n x) → ShMs n xs
  | [], _ => by simp
  | x :: xs, h => by
    rw [shms_cons]
    exact ⟨h x List.mem_cons_self, shms_of fun y hy => h y (List.mem_cons_of_mem _ hy)⟩
mutual
theorem ShM.up : ∀ {t : T} {n : Nat}, ShM n t → ShM (n + 1) t
  | .non, n, _ => by simp
  | .bl _, n, _ => by simp
  | .int _, n, _ => by simp
  | .str _, n, _ => by simp
  | .lst _, 0, h => by simp [ShM] at h
  | .lst xs, n + 1, h => shm_lst.mpr (ShMs.up (shm_lst.mp h))
  | .tup _, 0, h => by simp [ShM] at h
  | .tup xs, n + 1, h => shm_tup.mpr (ShMs.up (shm_tup.mp h))
  | .dct _, 0, h => by simp [ShM] at h
  | .dct xs, n + 1, h => shm_dct.mpr (ShMd.up (shm_dct.mp h))
  | .cst _, n, h => by cases n <;> simp [ShM] at h
  | .scr _, n, h => by cases n <;> simp [ShM] at h
  | .ins _ _, n, h => by cases n <;> simp [ShM] at h
  | .obj _, n, h => by cases n <;> simp [ShM] at h
  | .kr _ _, n, h => by cases n <;> simp [ShM] at h
  | .exc _ _ _ _, n, h => by cases n <;> simp [ShM] at h
theorem ShMs.up : ∀ {ts : List T} {n : Nat}, ShMs n ts → ShMs (n + 1) ts
  | [], _, _ => by simp
  | t :: ts, n, h => shms_cons.mpr ⟨ShM.up (shms_cons.mp h).1, ShMs.up (shms_cons.mp h).2⟩
theorem ShMd.up : ∀ {ts : List (TK × T)} {n : Nat}, ShMd n ts → ShMd (n + 1) ts
  | [], _, _ => by simp
  | (k, t) :: ts, n, h => shmd_cons.mpr ⟨(shmd_cons.mp h).1, ShM.up (shmd_cons.mp h).2.1, ShMd.up (shmd_cons.mp h).2.2⟩
end
theorem okm_VS {x : T} (h : OkM x) : ShM 60 x := h.shp.up
theorem okm_VW {x : T} (h : OkM x) : ShwM x := ⟨h.sz.sh, by
  rw [repM_eq, Array.length_toList]
  exact Nat.le_trans h.sz.sz (by decide)⟩
theorem okm_S {xs : List T} (h : ∀ x ∈ xs, OkM x) : ShM 60 (.lst xs) := shm_lst.mpr (shms_of fun x hx => (h x hx).shp)
theorem okm_W {xs : List T} (h : ∀ x ∈ xs, OkM x) (hl : xs.length ≤ 300) : ShwM (.lst xs) := by
  have e := sz_list (szm_of fun x hx => (h x hx).sz)
  have et : toM (.lst xs) = .list (toMs xs) := by rw [toM]
  refine ⟨by rw [et]; exact e.sh, ?_⟩
  rw [repM_eq, et, Array.length_toList]
  refine Nat.le_trans e.sz ?_
  rw [toM_len]
  exact Nat.le_trans (by omega : _ ≤ 13000000) (by decide)
/-- a list of what may be shown -/
theorem repM_ok {xs : List T} {m : Mem} {P : PX} (h : ∀ x ∈ xs, OkM x) (hl : xs.length ≤ 300) (hP : P (.str (repM (.lst xs))) m) : repMA [.lst xs] m P := ⟨okm_S h, okm_W h hl, hP⟩
/-! the same of repr without dicts -/
structure Okr (x : T) : Prop where
  shp : Shp 59 x
  sh : ∃ k, Sh (toD x) 30000 k
theorem okr_of : ∀ {xs : List T}, (∀ x ∈ xs, Okr x) → ∃ k, ShA (toDs xs) (30000 * xs.length) k
  | [], _ => ⟨0, by rw [toDs]; exact sha_nil⟩
  | x :: xs, h => by
    obtain ⟨k, hk⟩ := okr_of fun y hy => h y (List.mem_cons_of_mem _ hy)
    obtain ⟨j, hj⟩ := (h x List.mem_cons_self).sh
    exact ⟨max j k, by
      rw [toDs, List.length_cons, show 30000 * (xs.length + 1) = 30000 + 30000 * xs.length by omega]
      exact sha_cons hj hk⟩
theorem toDs_n : ∀ xs : List T, (toDs xs).length = xs.length
  | [] => by rw [toDs]; rfl
  | x :: xs => by rw [toDs, List.length_cons, List.length_cons, toDs_n xs]
theorem okr_shps : ∀ {xs : List T}, (∀ x ∈ xs, Okr x) → Shps 59 xs
  | [], _ => by simp [Shps]
  | x :: xs, h => by
    rw [Shps]
    exact ⟨(h x List.mem_cons_self).shp, okr_shps fun y hy => h y (List.mem_cons_of_mem _ hy)⟩
section
variable {m : Mem} {P : PX}
/-- repr of a list of such -/
theorem okr_S {xs : List T} (h : ∀ x ∈ xs, Okr x) : Shp 60 (nrm m (.lst xs)) := by rw [nrm_lst, shp_lst]; exact okr_shps h
theorem okr_W {xs : List T} (h : ∀ x ∈ xs, Okr x) (hl : xs.length ≤ 80) : Shw (nrm m (.lst xs)) := by
  obtain ⟨k, hk⟩ := okr_of h
  have s := sh_list hk
  have e : toD (.lst xs) = .list (toDs xs) := by rw [toD]
  rw [nrm_lst]
  refine ⟨by rw [e]; exact s.sh, ?_⟩
  rw [rep_eq, e, Array.length_toList]
  have := s.sz
  rw [toDs_n] at this
  refine Nat.le_trans this ?_
  exact Nat.le_trans (by omega : _ ≤ 3000000) (by decide)
theorem rep_ok {xs : List T} (h : ∀ x ∈ xs, Okr x) (hl : xs.length ≤ 80) (hP : P (.str (rep (.lst xs))) m) : repA [.lst xs] m P := ⟨okr_S h, okr_W h hl, hP⟩
theorem okr_int {n : Nat} (h : n < 2 ^ 1900) : Okr (.int n) := ⟨by simp, 1, by rw [toD]; exact (sh_int n (k := 1900) (by decide) (by decide) h).le (by decide) (Nat.le_refl _)⟩
theorem okr_str {s : List Nat} (hs : s.length ≤ 2000) (hc : ∀ c ∈ s, c < 128) : Okr (.str s) := ⟨by simp, 1, by
  rw [toD]
  have e := sh_str (tx s) (by rw [tx_list]; exact hc)
  rw [tx_len] at e
  exact e.le (by omega) (Nat.le_refl _)⟩
theorem okr_lst {xs : List T} (h : ∀ x ∈ xs, ∃ l, x = .str l ∧ l.length ≤ 100 ∧ ∀ c ∈ l, c < 128) (hl : xs.length ≤ 20) : Okr (.lst xs) := by
  have key : ∀ {xs : List T}, (∀ x ∈ xs, ∃ l, x = .str l ∧ l.length ≤ 100 ∧ ∀ c ∈ l, c < 128) → ∃ k, ShA (toDs xs) (1002 * xs.length) k := by
    intro xs
    induction xs with
    | nil => intro _; exact ⟨0, by rw [toDs]; exact sha_nil⟩
    | cons x xs ih =>
      intro h
      obtain ⟨k, hk⟩ := ih fun y hy => h y (List.mem_cons_of_mem _ hy)
      obtain ⟨l, rfl, h1, h2⟩ := h x List.mem_cons_self
      have e := sh_str (tx l) (by rw [tx_list]; exact h2)
      rw [tx_len] at e
      have e2 := e.le (m := 1002) (by omega) (Nat.le_refl _)
      exact ⟨max 1 k, by
        rw [toDs, toD, List.length_cons, show 1002 * (xs.length + 1) = 1002 + 1002 * xs.length by omega]
        exact sha_cons e2 hk⟩
  obtain ⟨k, hk⟩ := key h
  have s := sh_list hk
  rw [toDs_n] at s
  refine ⟨?_, k + 1, by rw [toD]; exact s.le (by omega) (Nat.le_refl _)⟩
  have : Shps 58 xs := by
    clear hk s key hl
    induction xs with
    | nil => simp [Shps]
    | cons x xs ih =>
      obtain ⟨l, rfl, _⟩ := h x List.mem_cons_self
      rw [Shps]
      exact ⟨by simp [Shp], ih fun y hy => h y (List.mem_cons_of_mem _ hy)⟩
  simpa [Shp] using this
theorem okr_non : Okr .non := ⟨shp_non, 1, by simp only [toD]; exact sh_none.le (by decide) (Nat.le_refl _)⟩
theorem okr_bl {b : Bool} : Okr (.bl b) := ⟨shp_bl, 1, by rw [toD]; exact (sh_bool b).le (by decide) (Nat.le_refl _)⟩
/-- two texts that are equal, compared -/
theorem ifne {l : List Nat} {A B : Prop} (h : B) : if (!eqT (nrm m (.str l)) (nrm m (.str l))) = true then A else B := by
  have e : (!eqT (nrm m (.str l)) (nrm m (.str l))) = false := by simp [nrm, eqT]
  rw [e]
  exact h
theorem shpT {l : List Nat} : Shp 60 (nrm m (.str l)) := by simp [nrm]
theorem neA_same {l : List Nat} {Q : PX} (h : Q (.bl false) m) : neA (.str l) (.str l) m Q := ⟨by simp [nrm, Shp], by simp [nrm, Shp], by
  have e : (!eqT (nrm m (.str l)) (nrm m (.str l))) = false := by simp [nrm, eqT]
  rw [e]; exact h⟩
theorem eqA_same {l : List Nat} {Q : PX} (h : Q (.bl true) m) : eqA (.str l) (.str l) m Q := ⟨by simp [nrm, Shp], by simp [nrm, Shp], by
  have e : (eqT (nrm m (.str l)) (nrm m (.str l))) = true := by simp [nrm, eqT]
  rw [e]; exact h⟩
end
/-! ## words -/
theorem sign_strI {d : Int} : ∀ c ∈ strI d, c ≠ 35 ∧ c < 128 := by
  intro c hc
  obtain ⟨ch, h1, rfl⟩ := List.mem_map.mp hc
  rcases int_sign d ch h1 with h | h
  · have := digit_range h; omega
  · subst h; decide
theorem logB {d : Nat} (h : d ≤ 10 ^ 40 + 1) : d.log2 < 1920 := by
  rcases Nat.eq_zero_or_pos d with rfl | z
  · decide
  · refine Nat.lt_of_lt_of_le ((Nat.log2_lt (k := 140) (by omega)).mpr ?_) (by decide)
    exact Nat.lt_of_le_of_lt h (by decide)
theorem okc_128 {c : Nat} (h : okc c = true) : c < 128 := by
  unfold okc at h
  simp at h
  omega
theorem wd_lt {l : List Nat} (w : Wd l) : ∀ c ∈ l, c < 128 := fun c hc => okc_128 (List.all_eq_true.mp w.all c hc)
theorem fill_cs {x : Pt} (w : x.Ok) {d : Int} (hb : d.natAbs.log2 < 1920) : (x.fill d).length ≤ 2000 ∧ ∀ c ∈ x.fill d, c < 128 := by
  have l1 := strI_len hb
  have l2 := w.len
  constructor
  · unfold Pt.fill
    simp only [List.length_append]
    omega
  · intro c hc
    unfold Pt.fill at hc
    rcases List.mem_append.mp hc with hc | hc
    · rcases List.mem_append.mp hc with hc | hc
      · exact okc_128 (List.all_eq_true.mp w.a c hc)
      · exact (sign_strI c hc).2
    · exact okc_128 (List.all_eq_true.mp w.b c hc)
theorem word_cs {r : RowM} (w : r.Ok) {d : Nat} (hb : d.log2 < 1920) : (r.word d).length ≤ 2000 ∧ ∀ c ∈ r.word d, c < 128 := by
  unfold RowM.word
  split
  · rename_i x e
    have := w.ws x (List.mem_of_getElem? e)
    exact ⟨by have := this.len; omega, wd_lt this⟩
  · have wf := w.far
    cases h : r.far with
    | wd l => rw [h] at wf; exact ⟨by have := Wd.len (l := l) wf; show l.length ≤ 2000; omega, wd_lt (l := l) wf⟩
    | pt x => rw [h] at wf; exact fill_cs (x := x) wf (by simpa using hb)
theorem okr_word {r : RowM} (w : r.Ok) {d : Nat} (hb : d.log2 < 1920) : Okr (.str (r.word d)) := okr_str (word_cs w hb).1 (word_cs w hb).2
theorem okr_len {l : List Nat} (h : l.length ≤ 2000) : Okr (.int (l.length : Nat)) := okr_int (Nat.lt_of_le_of_lt h (by decide))
theorem okr_ws {r : RowM} (w : r.Ok) : Okr (.lst (r.ws.map T.str)) := okr_lst (fun x hx => by
  obtain ⟨l, hl, rfl⟩ := List.mem_map.mp hx
  exact ⟨l, rfl, by have := (w.ws l hl).len; omega, wd_lt (w.ws l hl)⟩) (by have := w.len; simp; omega)
end AM
set_option maxHeartbeats 4000000
namespace AM
open PySem PySem.Spec PyProof.Rows L2 Eb
/-! ## == and != of values of any kind, one of them an instance -/
theorem int_eq_no_inst (b : Int) (u : Tok) (l C dx : Addr) :
    Meets (Builtin.«int.__eq__» ⟨[.int b u, .ref l], []⟩) (fun _ R s => s.heap.get? l = some (PySem.W.instObj C dx) ∧ R (.ok (.ret .notImplemented)) s) :=
  .of_wp fun prog w A R s h => by obtain ⟨hp, g, d, tk, os⟩ := s; obtain ⟨hl, h⟩ := h; wp_walk using wpAny_loadPart' hl, wpAny_load hl; exact ⟨_, rfl, h⟩
theorem bool_eq_no_inst (b : Bool) (l C dx : Addr) :
    Meets (Builtin.«int.__eq__» ⟨[.bool b, .ref l], []⟩) (fun _ R s => s.heap.get? l = some (PySem.W.instObj C dx) ∧ R (.ok (.ret .notImplemented)) s) :=
  .of_wp fun prog w A R s h => by obtain ⟨hp, g, d, tk, os⟩ := s; obtain ⟨hl, h⟩ := h; wp_walk using wpAny_loadPart' hl, wpAny_load hl; exact ⟨_, rfl, h⟩
theorem list_eq_no_inst (prog : Program) (w : World) (a : Addr) (items : Array Value) (n : Nat) (dd : Option Addr) (sl : Array (Option Value)) (l C dx : Addr) :
    MeetsIn prog w (Builtin.«list.__eq__» ⟨[.ref a, .ref l], []⟩) (fun _ R s => (s.heap.get? a = some { cls := .type "list", dict := dd, data := .seq items n, slots := sl } ∧ s.heap.get? l = some (PySem.W.instObj C dx) ∧ PySem.W.Looks (model prog w) s.heap (isSubtype (PySem.W.instObj C dx).cls (.type "list")) false) ∧ R (.ok (.ret .notImplemented)) s) :=
  .of_wp fun A R s h => by obtain ⟨hp, g, d, tk, os⟩ := s; obtain ⟨⟨ha, hl, hs⟩, h⟩ := h; wp_walk using wpAny_loadPart' ha, wpAny_loadPart' hl, wpAny_load hl, hs.here; exact ⟨_, rfl, h⟩
theorem tuple_eq_no_inst (prog : Program) (w : World) (a : Addr) (items : Array Value) (n : Nat) (dd : Option Addr) (sl : Array (Option Value)) (l C dx : Addr) :
    MeetsIn prog w (Builtin.«tuple.__eq__» ⟨[.ref a, .ref l], []⟩) (fun _ R s => (s.heap.get? a = some { cls := .type "tuple", dict := dd, data := .seq items n, slots := sl } ∧ s.heap.get? l = some (PySem.W.instObj C dx) ∧ PySem.W.Looks (model prog w) s.heap (isSubtype (PySem.W.instObj C dx).cls (.type "tuple")) false) ∧ R (.ok (.ret .notImplemented)) s) :=
  .of_wp fun A R s h => by obtain ⟨hp, g, d, tk, os⟩ := s; obtain ⟨⟨ha, hl, hs⟩, h⟩ := h; wp_walk using wpAny_loadPart' ha, wpAny_loadPart' hl, wpAny_load hl, hs.here; exact ⟨_, rfl, h⟩
/-- a value of the language's own, left of an instance of C: the reflected own == -/
def declT (m : Mem) : T → Prop
  | .non => True
  | .bl _ => True
  | .int _ => True
  | .str _ => True
  | .lst _ => True
  | .tup _ => True
  | .obj n => ∃ xs, m[n]? = some (.lst xs)
  | _ => False
@[simp] def fRev (C : String) (F : AF) : A2X := fun x y m P Fx => clsIs m y C ∧ declT m x ∧ F [y, x] m (fun t m3 => noC t ∧ P t m3) Fx
section
variable {gd md : Bool} {c : Cl} {X : Cx} {k j n : Nat} {C : String} {F : AF} {m : Str} {anc : String → List String}
theorem opA_rev (h : MetA gd md X.prog X.w X.K X.mg X.base c.cls k C m [] 1 F) (hm' : (cmpInfo .Eq).2.1 = m) (hs : ∀ s ∈ bT, PySem.W.subIn X.K (.ref (ga X.K C)) (.type s) = some false) (hg : gd = true → X.A.guards = some []) (hr : Room j X.A) (hk : k ≤ j) (tk : Pas md X c.W) : OpA c X (compareOp .Eq) (fRev C F) := by
  intro pins s σ H0 H G0 G m0 x y v u v' u' P Fx Q I mr st vx vy rx ry hf0 kk
  obtain ⟨hc, hd, p3⟩ := hf0
  obtain ⟨⟨C', fs⟩, e1, e2⟩ := Option.map_eq_some_iff.mp hc
  cases (show C' = C from e2)
  obtain ⟨f, fd, ps, ds, dvs, hm, hf, hlen, bd, d, vd⟩ := h.ex
  obtain ⟨a, dx, us, rfl, ea, ik, vf⟩ := rdI mr (.inl vy) e1
  obtain rfl : u' = Value.ref a := ry
  obtain ⟨mA, O, _⟩ := ins_get I.hok ea
  obtain ⟨od, J, _⟩ := O.look
  obtain ⟨mm, Fm⟩ := I.fr
  have KX := I.kIn
  have kk' : Cont (VR (go X c.cls)) (go X c.cls) c.W G0 H0 σ (fun t m3 => noC t ∧ P t m3) Fx (fun v H' => (∀ u s (R : Value → Shared → Prop), RelV v u → R u s → PySem.W.CmpBack R u s) ∧ Q v H') := ⟨fun t m' G' v H' ⟨p, p'⟩ s r vr => ⟨fun u s R ru q => noC_back p vr ru q, kk.ok t m' G' v H' p' s r vr⟩, kk.ex⟩
  have sp := call_sp (F := F) (n := ps.length) (vs := [.ref a, v] ++ dvs) (ts := [y, x]) (by rw [List.length_append, hlen, ← (vd G H).length]; rfl) kk' st mr (vrs_cons.mpr ⟨_, _, rfl, vy, vrs_cons.mpr ⟨_, _, rfl, vx, by cases vrs_nil.mp (vd G H); exact vrs_nil.mpr rfl⟩⟩) p3
  have cal := thn (runA (us := [.ref a, v']) (vs := [.ref a, v]) hf hg (hr.mono hk) tk bd d I (.cons rfl (.cons rx .nil)) sp) fun w s3 ⟨v', H', I', rv, hcb, q'⟩ => hcb w s3 (EP X pins σ Q) rv ⟨v', H', I', rv, q'⟩
  have key : ∃ Tn, Tn ∈ bT ∧ PySem.W.Looks (model X.prog X.w) s.heap (typeOf v') (.type Tn) ∧ oneThing? .Eq v' (.ref a) = none ∧
      ∀ {R : Option Value → Shared → Prop}, R none s → wpAny (model X.prog X.w) X.A (tryCompare v' (cmpInfo .Eq).2.1 (.ref a)) R X.xe s := by
    have lsub : ∀ Tn ∈ bT, PySem.W.Looks (model X.prog X.w) s.heap (isSubtype (PySem.W.instObj (ga X.K C) dx).cls (.type Tn)) false := fun Tn hT => PySem.W.looks_subIn KX (hs Tn hT)
    have lstk : ∀ (b : Addr) (ws : List V), v' = .ref b → H b = some (.lst ws) → ∃ Tn, Tn ∈ bT ∧ PySem.W.Looks (model X.prog X.w) s.heap (typeOf v') (.type Tn) ∧ oneThing? .Eq v' (.ref a) = none ∧
      ∀ {R : Option Value → Shared → Prop}, R none s → wpAny (model X.prog X.w) X.A (tryCompare v' (cmpInfo .Eq).2.1 (.ref a)) R X.xe s := by
      rintro b ws rfl hb
      obtain ⟨_, its, n, rv, e⟩ := (show ObjOk X.prog X.w H s.heap b (.lst ws) from I.hok b _ hb)
      have ty : s.TypeIs (.ref b) "list" := ⟨_, e, rfl⟩
      refine ⟨"list", by decide, (PySem.W.Looks.ld e).andThen .now, rfl, fun {R} hR => ?_⟩
      unfold tryCompare
      refine wpAny_bind (wpAny_callSpecialIfBound?_slot (T := "list") ty PySem.F.slot_list_eq ?_)
      refine call_meetsIn PySem.F.slot_list_eq ty PySem.F.entry_list_eq (PySem.F.args_list_eq_2 _ _) (list_eq_no_inst _ _ b _ _ _ _ a (ga X.K C) dx) ⟨⟨e, J.at_, lsub "list" (by decide)⟩, ?_⟩
      exact wpAny_pure hR
    cases x with
    | non =>
      cases vr_non.mp vx
      obtain rfl : v' = Value.none := rx
      refine ⟨"NoneType", by decide, PySem.W.Looks.of_pure rfl, rfl, fun {R} hR => ?_⟩
      unfold tryCompare
      refine wpAny_bind (wpAny_callSpecialIfBound?_slot (T := "NoneType") rfl PySem.F.slot_NoneType_eq ?_)
      exact call_gives PySem.F.slot_NoneType_eq rfl PySem.F.entry_NoneType_eq (PySem.F.args_NoneType_eq_2 _ _) (SeqAt.NoneType___eq___none_ref_0 a) (wpAny_pure hR)
    | bl b =>
      cases vr_bl.mp vx
      obtain rfl : v' = Value.bool b := rx
      refine ⟨"bool", by decide, PySem.W.Looks.of_pure rfl, rfl, fun {R} hR => ?_⟩
      unfold tryCompare
      refine wpAny_bind (wpAny_callSpecialIfBound?_slot (T := "bool") rfl PySem.F.slot_bool_eq ?_)
      refine call_meets PySem.F.slot_bool_eq rfl PySem.F.entry_int_eq (PySem.F.args_int_eq_2 _ _) (bool_eq_no_inst b a (ga X.K C) dx) ⟨J.at_, ?_⟩
      exact wpAny_pure hR
    | int i =>
      cases vr_int.mp vx
      obtain ⟨tk', rfl⟩ := (show ∃ tk, v' = Value.int i tk from rx)
      refine ⟨"int", by decide, PySem.W.Looks.of_pure rfl, rfl, fun {R} hR => ?_⟩
      unfold tryCompare
      refine wpAny_bind (wpAny_callSpecialIfBound?_slot (T := "int") (typeIs_int s i tk') PySem.F.slot_int_eq ?_)
      refine call_meets PySem.F.slot_int_eq (typeIs_int s i tk') PySem.F.entry_int_eq (PySem.F.args_int_eq_2 _ _) (int_eq_no_inst i tk' a (ga X.K C) dx) ⟨J.at_, ?_⟩
      exact wpAny_pure hR
    | str lt =>
      obtain ⟨rfl, _⟩ := vr_str.mp vx
      obtain ⟨tk', rfl⟩ := (show ∃ tk, v' = Value.str (tx lt) tk from rx)
      refine ⟨"str", by decide, PySem.W.Looks.of_pure rfl, rfl, fun {R} hR => ?_⟩
      unfold tryCompare
      refine wpAny_bind (wpAny_callSpecialIfBound?_slot (T := "str") (typeIs_str s (tx lt) tk') PySem.F.slot_str_eq ?_)
      refine call_meets PySem.F.slot_str_eq (typeIs_str s (tx lt) tk') PySem.F.entry_str_eq (PySem.F.args_str_eq_2 _ _) (str_eq_declines_inst (tx lt) tk' a (ga X.K C) dx) ⟨J.at_, ?_⟩
      exact wpAny_pure hR
    | lst xs =>
      obtain ⟨b, ws, rfl, _, hb, _⟩ := vr_lst.mp vx
      exact lstk b ws rx hb
    | obj q =>
      obtain ⟨xs, hx⟩ := hd
      obtain ⟨b, ws, rfl, hb, _⟩ := rdX mr (.inl vx) (ts := xs) (by simp [asX, hx])
      exact lstk b ws rx hb
    | tup xs =>
      obtain ⟨b, ws, rfl, hb, _⟩ := rdT (.inl vx) (ts := xs) rfl
      obtain rfl : v' = Value.ref b := rx
      have at_ : ∃ (o : Obj) (its : Array Value) (n : Nat), s.heap.get? b = some o ∧ o.cls = .type "tuple" ∧ o.data = .seq its n := by
        rcases hb with q | ⟨o, its, k, e, hc, hd, _, hv⟩
        · obtain ⟨_, its, hv, o, e, hc, k, hd⟩ := (show ObjOk X.prog X.w H s.heap b (.tup ws) from q.ok I.hok)
          exact ⟨o, _, k, e, hc, hd⟩
        · exact ⟨o, its, k, KX _ _ e, hc, hd⟩
      obtain ⟨⟨oc, od2, oda, osl⟩, its, n, e, ec, edd⟩ := at_
      cases (show oc = _ from ec)
      cases (show oda = _ from edd)
      have ty : s.TypeIs (.ref b) "tuple" := ⟨_, e, rfl⟩
      refine ⟨"tuple", by decide, (PySem.W.Looks.ld e).andThen .now, rfl, fun {R} hR => ?_⟩
      unfold tryCompare
      refine wpAny_bind (wpAny_callSpecialIfBound?_slot (T := "tuple") ty PySem.F.slot_tuple_eq ?_)
      refine call_meetsIn PySem.F.slot_tuple_eq ty PySem.F.entry_tuple_eq (PySem.F.args_tuple_eq_2 _ _) (tuple_eq_no_inst _ _ b _ _ _ _ a (ga X.K C) dx) ⟨⟨e, J.at_, lsub "tuple" (by decide)⟩, ?_⟩
      exact wpAny_pure hR
    | _ => exact hd.elim
  obtain ⟨Tn, hT, L, o1, one⟩ := key
  show wpAny (model X.prog X.w) X.A (richCompare .Eq v' (.ref a)) (EP X pins σ Q) X.xe s
  unfold richCompare
  rw [o1]
  refine wpAny_holding (wpAny_bind (wpAny_cRoomFor hr.units0 ?_))
  refine wpAny_bind (L.here (wpAny_bind (J.type.here ?_)))
  refine wpAny_bind ((PySem.W.looks_subIn KX (hs Tn hT)).here ?_)
  simp only [Bool.false_eq_true, if_false]
  refine wpAny_bind (one ?_)
  simp only [Bool.not_false, if_true]
  have two : wpAny (model X.prog X.w) X.A (tryCompare (.ref a) (cmpInfo .Eq).2.2 v') (fun r s' => ∃ z, r = some z ∧ EP X pins σ Q z s') X.xe s := by
    unfold tryCompare
    refine wpAny_bind (PySem.W.ifBound_K KX J (by rw [← hm'] at hm; exact hm.at_) hm.fn ?_)
    refine wpAny_mono cal (fun v s' hv => ?_) fun _ _ e => e
    cases v <;> first | exact hv.elim | exact wpAny_pure ⟨_, rfl, hv⟩
  refine wpAny_bind (thn two fun r s' ⟨z, hz, h⟩ => ?_)
  subst hz
  exact wpAny_pure h
/-- x an instance of C, y of any kind: object's != -/
@[simp] def fNeG (anc : String → List String) (C : String) (F : AF) : A2X := fun x y m P Fx => clsIs m x C ∧ scd anc C (tyT m y) ∧ F [x, y] m (fun t m3 => match t with | .bl b => P (.bl (!b)) m3 | _ => False) Fx
theorem opA_neG (h : MetA gd false X.prog X.w X.K X.mg X.base c.cls k C "__eq__" [] 1 F) (hn : PySem.W.findIn X.K (.ref (ga X.K C)) "__ne__" = some (some (.builtin "object.__ne__"))) (ho : PySem.W.mroIn X.K (ga X.K C) (.type "object") = some true) (hno : ∀ C ∈ c.cls, bT.contains C = false) (hk0 : nfB anc c.cls C X.K = true) (hg : gd = true → X.A.guards = some []) (hr : Room j X.A) (hk : k + 1 ≤ j) (tk : Pas false X c.W) : OpA c X (compareOp .NotEq) (fNeG anc C F) := by
  obtain ⟨f, fd, ps, ds, dvs, hm, hf, hlen, bd, d, vd⟩ := h.ex
  intro pins s σ H0 H G0 G m0 x y v u v' u' P Fx Q I mr st vx vy rx ry ⟨hc, hs, p3⟩ kk
  obtain ⟨⟨C', fs⟩, e1, e2⟩ := Option.map_eq_some_iff.mp hc
  cases (show C' = C from e2)
  obtain ⟨a, dx, us, rfl, ea, ik, vf⟩ := rdI mr (.inl vx) e1
  unfold scd at hs
  split at hs
  case h_2 => exact hs.elim
  rename_i sn es
  obtain ⟨ty, mem⟩ := ty_X (Γ := go X c.cls) hno mr (.inl vy) es
  have nf := List.all_eq_true.mp hk0 sn mem
  rw [hs, Bool.false_or] at nf
  obtain rfl : v' = Value.ref a := rx
  obtain ⟨PP, kx, hp, _⟩ := kit_of I ry ty
  have kk' : Cont (VR (go X c.cls)) (go X c.cls) c.W G0 H0 σ (fun t m3 => match t with | .bl b => P (.bl (!b)) m3 | _ => False) Fx (fun v H' => ∃ z, v = .bl z ∧ Q (.bl (!z)) H') := ⟨fun t m' G' v H' p s r vr => by
    cases t with
    | bl z => exact ⟨z, vr_bl.mp vr, kk.ok _ m' G' _ H' p s r (vr_bl.mpr rfl)⟩
    | _ => exact p.elim, kk.ex⟩
  have sp := call_sp (F := F) (n := ps.length) (vs := [.ref a, u] ++ dvs) (ts := [x, y]) (by rw [List.length_append, hlen, ← (vd G H).length]; rfl) kk' st mr (vrs_cons.mpr ⟨_, _, rfl, vx, vrs_cons.mpr ⟨_, _, rfl, vy, by cases vrs_nil.mp (vd G H); exact vrs_nil.mpr rfl⟩⟩) p3
  obtain ⟨mA, O, _⟩ := ins_get I.hok ea
  obtain ⟨od, J, _⟩ := O.look
  have KX := I.kIn
  have rm : Room k X.A.in1 := (hr.mono hk).in1
  have cal : wpAny (model X.prog X.w) X.A.in1 (call (.ref f) [.ref a, u']) (fun v s' => ∃ z, v = .bool z ∧ EP X pins σ Q (.bool (!z)) s') X.xe s := by
    have rr := runA1 (R := fun r s' => match r with | .ok (.ret v) => ∃ z, v = .bool z ∧ EP X pins σ Q (.bool (!z)) s' | .ok _ => False | .error e => X.xe e s') (us := [.ref a, u']) (vs := [.ref a, u]) hf hg (hr.mono hk) tk bd d I (.cons rfl (.cons ry .nil)) sp (fun v s' ⟨w, H', I', rw', z, ez, qz⟩ => by
      subst ez
      cases (show v = Value.bool z from rw')
      exact ⟨z, rfl, .bl (!z), H', I', rfl, qz⟩) (fun z => by cases z)
    refine wpAny_call (codeAny_mono rr fun r s' hq => ?_)
    cases r with
    | error e => exact hq
    | ok fl => cases fl <;> first | exact hq | exact hq.elim
  have one : wpAny (model X.prog X.w) X.A (tryCompare (.ref a) (cmpInfo .NotEq).2.1 u') (fun r s' => ∃ z, r = some z ∧ EP X pins σ Q z s') X.xe s := by
    unfold tryCompare
    refine wpAny_bind ?_
    simp only [callSpecialIfBound?, bindSpecialIfBound?]
    refine wpAny_holding (wpAny_bind (wpAny_bind (wpAny_bind (J.type.here ((PySem.W.looks_findIn KX hn).here ?_)))))
    simp only [on_slot.bind]
    refine wpAny_bind (wpAny_askSetting (wpAny_ite ?_))
    have cl : wpAny (model X.prog X.w) X.A (call (.builtin "object.__ne__") [.ref a, u']) (fun v s' => ∃ z, v = .bool z ∧ EP X pins σ Q (.bool z) s') X.xe s := by
      refine wpAny_call (codeAny_call_builtin on_slot.plain PySem.F.cmpEntry_ne (PySem.W.check_slot PySem.F.cmpKind_ne PySem.F.cmpSplit_ne (J.type.andThen (PySem.W.looks_mroIn KX ho)) (PySem.F.cmpArgs_ne _ _) ?_))
      unfold Builtin.«object.__ne__»
      refine wpAny_bind (wpAny_pure ?_)
      refine wpAny_bind (wpAny_cRoomFor rm.units0 ?_)
      refine wpAny_bind (PySem.W.ifBound_K KX J hm.at_ hm.fn (thn cal fun v s' ⟨z, hz, hq⟩ => ?_))
      subst hz
      refine wpAny_bind (wpAny_truthy_bool ?_)
      exact wpAny_pure ⟨_, rfl, hq⟩
    have fin : wpAny (model X.prog X.w) X.A (call (.builtin "object.__ne__") ([.ref a] ++ [u']) >>= fun v => pure (some v)) (fun r s' => wpAny (model X.prog X.w) X.A (match r with
        | some .notImplemented | none => pure none
        | some v => pure (some v)) (fun r s' => ∃ z, r = some z ∧ EP X pins σ Q z s') X.xe s') X.xe s := by
      refine wpAny_bind (thn cl fun v s' ⟨z, hz, hq⟩ => wpAny_pure ?_)
      subst hz
      exact wpAny_pure ⟨_, rfl, hq⟩
    split
    · exact wpAny_bind (wpAny_pure (wpAny_pure fin))
    · exact wpAny_tryCatch (wpAny_bind (wpAny_pure (wpAny_pure fin)))
  show wpAny (model X.prog X.w) X.A (richCompare .NotEq (.ref a) u') (EP X pins σ Q) X.xe s
  unfold richCompare
  simp only [oneThing_ref]
  refine wpAny_holding (wpAny_bind (wpAny_cRoomFor hr.units0 ?_))
  refine wpAny_bind (J.type.here (wpAny_bind ((kx.ty _ _ I.kIn hp).here ?_)))
  split
  · rename_i q
    have e : PySem.W.subIn X.K (tv X.K sn) (.ref (ga X.K C)) = some false := by
      rcases Bool.or_eq_true_iff.mp nf with e | e
      · rw [beq_iff_eq.mp e] at q; simp at q
      · exact beq_iff_eq.mp e
    refine wpAny_bind ((PySem.W.looks_subIn KX e).here ?_)
    simp only [Bool.false_eq_true, if_false]
    refine wpAny_bind (thn one fun r s' ⟨z, hz, h⟩ => ?_)
    subst hz
    exact wpAny_pure h
  · refine wpAny_bind (wpAny_pure ?_)
    simp only [Bool.false_eq_true, if_false]
    refine wpAny_bind (thn one fun r s' ⟨z, hz, h⟩ => ?_)
    subst hz
    exact wpAny_pure h
/-! == by a table of classes -/
def EqTab (c : Cl) (X : Cx) (anc : String → List String) : List (String × AF) → Prop
  | [] => True
  | (C, F) :: r => (OpA c X (compareOp .Eq) (fOwn anc C F) ∧ OpA c X (compareOp .Eq) (fRev C F)) ∧ EqTab c X anc r
theorem EqTab.get {C : String} {F : AF} : ∀ {tb : List (String × AF)}, EqTab c X anc tb → tb.lookup C = some F → OpA c X (compareOp .Eq) (fOwn anc C F) ∧ OpA c X (compareOp .Eq) (fRev C F)
  | [], _, e => by cases e
  | (D, K) :: r, h, e => by
    rw [List.lookup_cons] at e
    split at e
    · rename_i q
      cases e
      cases (beq_iff_eq.mp q)
      exact h.1
    · exact EqTab.get h.2 e
@[simp] def fEqG (anc : String → List String) (tb : List (String × AF)) : A2X := fun x y m P Fx => match asI m x with
  | some (C, _) => (match tb.lookup C with | some F => fOwn anc C F x y m P Fx | none => False)
  | none => match asI m y with
    | some (C, _) => (match tb.lookup C with | some F => fRev C F x y m P Fx | none => False)
    | none => eqA x y m P
theorem opA_eqG {tb : List (String × AF)} (h : EqTab c X anc tb) (hr : Room j X.A) : OpA c X (compareOp .Eq) (fEqG anc tb) := by
  have O3 : OpA c X (compareOp .Eq) (fun x y m P _ => eqA x y m P) := opA_2 (op_eqD hr.units) sim_eq
  intro pins s σ H0 H G0 G m0 x y v u v' u' P Fx Q I mr st vx vy rx ry hf kk
  unfold fEqG at hf
  split at hf
  · split at hf
    · rename_i F e
      exact (h.get e).1 pins s σ H0 H G0 G m0 x y v u v' u' P Fx Q I mr st vx vy rx ry hf kk
    · exact hf.elim
  · split at hf
    · split at hf
      · rename_i F e
        exact (h.get e).2 pins s σ H0 H G0 G m0 x y v u v' u' P Fx Q I mr st vx vy rx ry hf kk
      · exact hf.elim
    · exact O3 pins s σ H0 H G0 G m0 x y v u v' u' P Fx Q I mr st vx vy rx ry hf kk
theorem eqtab_cons {C : String} {F : AF} {r : List (String × AF)} (h : MetA gd md X.prog X.w X.K X.mg X.base c.cls k C m [] 1 F) (hm' : (cmpInfo .Eq).2.1 = m) (hs : ∀ s ∈ bT, PySem.W.subIn X.K (.ref (ga X.K C)) (.type s) = some false) (hno : ∀ C ∈ c.cls, bT.contains C = false) (hk0 : nfB anc c.cls C X.K = true) (hg : gd = true → X.A.guards = some []) (hr : Room j X.A) (hk : k ≤ j) (tk : Pas md X c.W) (t : EqTab c X anc r) : EqTab c X anc ((C, F) :: r) :=
  ⟨⟨opA_own h (fun f hm => o2_cmp (op := .Eq) hm hm' (fun _ _ => rfl) hr) hno hk0 hg hr hk tk, opA_rev h hm' hs hg hr hk tk⟩, t⟩
def sbB (C : String) (K : PySem.W.Frag) : Bool := bT.all fun s => decide (PySem.W.subIn K (.ref (ga K C)) (.type s) = some false)
theorem sbB_ok {C : String} {K : PySem.W.Frag} (h : sbB C K = true) : ∀ s ∈ bT, PySem.W.subIn K (.ref (ga K C)) (.type s) = some false := fun s hs => of_decide_eq_true (List.all_eq_true.mp h s hs)
end
end AM
set_option maxHeartbeats 4000000
namespace AM
open PySem PySem.Spec PyProof.Rows L2 Eb
/-! ## isinstance of the exception that a suite holds -/
def bE : List String := ["ValueError", "LookupError", "RuntimeError", "ArithmeticError"]
def evE (K : PySem.W.Frag) (s : String) : Value := if bE.contains s then .type s else .ref (ga K s)
def evV (K : PySem.W.Frag) (s : String) : V := if bE.contains s then .ty s else .ref (ga K s)
theorem evV_of (K : PySem.W.Frag) (s : String) : ∀ u, RelV (evV K s) u → u = evE K s := by
  intro u h
  unfold evV at h
  unfold evE
  by_cases c : bE.contains s = true
  · rw [if_pos c] at h ⊢; exact h
  · rw [if_neg c] at h ⊢; exact h
structure ExIs (K : PySem.W.Frag) (D : Addr) : Prop where
  cl : (PySem.W.clsIn K D).isSome = true
  ga : PySem.W.findIn K (.ref D) "__getattribute__" = some (some (.builtin "BaseException.__getattribute__"))
  gt : ∃ g, PySem.W.findIn K (.ref D) "__getattr__" = some g
  sub : PySem.W.subIn K (.ref D) (.type "BaseException") = some true
  ca : PySem.W.findIn K (.ref D) "__class__" = some (some (.builtin "object.__class__"))
  sp : PySem.W.specialIn K (.builtin "object.__class__") "__get__" = some (some (.builtin "getset_descriptor.__get__"))
  tk : PySem.W.takesIn K (.builtin "object.__class__") = some true
  mo : PySem.W.mroIn K D (.type "object") = some true
def exIsB (C : String) (K : PySem.W.Frag) : Bool :=
  (PySem.W.clsIn K (ga K C)).isSome && (He.eqO (PySem.W.findIn K (.ref (ga K C)) "__getattribute__") (some (some (.builtin "BaseException.__getattribute__"))) && ((PySem.W.findIn K (.ref (ga K C)) "__getattr__").isSome && (decide (PySem.W.subIn K (.ref (ga K C)) (.type "BaseException") = some true) &&
   (He.eqO (PySem.W.findIn K (.ref (ga K C)) "__class__") (some (some (.builtin "object.__class__"))) && (He.eqO (PySem.W.specialIn K (.builtin "object.__class__") "__get__") (some (some (.builtin "getset_descriptor.__get__"))) && (decide (PySem.W.takesIn K (.builtin "object.__class__") = some true) && decide (PySem.W.mroIn K (ga K C) (.type "object") = some true)))))))
theorem exIsB_ok {C : String} {K : PySem.W.Frag} (h : exIsB C K = true) : ExIs K (ga K C) := by
  unfold exIsB at h
  simp only [Bool.and_eq_true, decide_eq_true_eq] at h
  obtain ⟨h1, h2, h3, h4, h5, h6, h7, h8⟩ := h
  exact ⟨h1, He.eqO_ok h2, Option.isSome_iff_exists.mp h3, h4, He.eqO_ok h5, He.eqO_ok h6, h7, h8⟩
def exKB (anc : String → List String) (C D : String) (K : PySem.W.Frag) : Bool := decide (PySem.W.kitOne K (.ref (ga K C)) (evE K D) = some (subC anc C D))
theorem exKB_ok {anc : String → List String} {C D : String} {K : PySem.W.Frag} (h : exKB anc C D K = true) : PySem.W.kitOne K (.ref (ga K C)) (evE K D) = some (subC anc C D) := of_decide_eq_true h
def rXis (K : PySem.W.Frag) (D a dd : Addr) : List V → Hp → VK → Prop := fun xs H Q => ∃ (c : V) (cv : Value) (b : Bool), xs = [.ref a, c] ∧ (∀ u, RelV c u → u = cv) ∧ PySem.W.kitOne K (.ref D) cv = some b ∧ (∃ us, H dd = some (.xd us)) ∧ Q (.bl b) H
theorem call_isX {X : Cx} {a D dd : Addr} {oe : Obj} {pn : List (Addr × Obj)} (C : ExIs X.K D) (hz : Zc (.ref D) (some dd) oe) (hf : ∃ vs, oe.data = .fields vs) : CallR (X.suite a ((a, oe) :: pn)) (.builtin "isinstance") (rXis X.K D a dd) := by
  intro pins s σ H xs us Q I r h
  obtain ⟨c, cv, b, rfl, hcv, e, ⟨fs, ed⟩, q⟩ := h
  cases r with
  | cons r1 r2 =>
    cases r2 with
    | cons r3 r4 =>
      cases r4
      cases r1
      obtain rfl := hcv _ r3
      have pa := (I.pin (a, oe) (List.mem_append_left _ List.mem_cons_self)).1
      obtain ⟨mA, hns, _⟩ := (show ObjOk X.prog X.w H s.heap dd (.xd fs) from I.hok dd _ ed)
      obtain ⟨od, ho, _⟩ := lookIn_ns hns
      obtain ⟨vs, hv⟩ := hf
      have J : PySem.W.InstAt s.heap a oe D (some od) := ⟨pa, hz.1, by unfold PySem.W.notCls; rw [hv], by rw [hz.2]; exact ho⟩
      obtain ⟨g, hgt⟩ := C.gt
      exact PySem.W.kia_one (PySem.W.kitx_exc C.cl C.ga hgt C.sub C.ca C.sp C.tk C.mo) I.kIn J e nofun fun t => ⟨.bl b, H, I.kept (t' := t) fun _ _ z => z, rfl, q⟩
@[simp] def aXis (a dd : Addr) (C : String) (b : Bool) (A : AE) : AE := fun z m P F => A z m (fun t m1 => match t with
  | .exc a' dd' C' _ => a' = a ∧ dd' = dd ∧ C' = C ∧ P (.bl b) m1
  | _ => False) F
theorem se_xis {cls : List String} {W : WX} {X : Cx} {a dd : Addr} {oe : Obj} {pn : List (Addr × Obj)} {e1 e2 e : Expr} {A : AE} {C D : String} {b : Bool} (T : ExIs X.K (ga X.K C)) (hk : PySem.W.kitOne X.K (.ref (ga X.K C)) (evE X.K D) = some b) (hz : Zc (.ref (ga X.K C)) (some dd) oe) (hf : ∃ vs, oe.data = .fields vs)
    (mk : ∀ {t1 t2 : TE} {r : List V → Hp → VK → Prop}, CallR (X.suite a ((a, oe) :: pn)) (.builtin "isinstance") r → PE (X.suite a ((a, oe) :: pn)) e1 t1 → PE (X.suite a ((a, oe) :: pn)) e2 t2 → PE (X.suite a ((a, oe) :: pn)) e (tCB r (tCons t1 (tCons t2 tNil))))
    (h1 : SE ⟨cls, W⟩ (X.suite a ((a, oe) :: pn)) e1 A) (h2 : PE (X.suite a ((a, oe) :: pn)) e2 (tC (evV X.K D))) : SE ⟨cls, W⟩ (X.suite a ((a, oe) :: pn)) e (aXis a dd C b A) :=
  pe_weak (mk (call_isX T hz hf) h1 h2) fun σ H Q ⟨G, z, m, P, F, mr, sr, h, k⟩ => ⟨G, z, m, _, F, mr, sr, h, k.mv Stp.refl fun t m1 G1 v H1 p1 s1 r1 v1 => by
    split at p1
    · rename_i a' dd' C' fs
      obtain ⟨rfl, rfl, rfl, p1⟩ := p1
      obtain ⟨rfl, n, us, e3, e4⟩ := vr_exc.mp v1
      exact ⟨evV X.K D, _, b, rfl, evV_of X.K D, hk, ⟨us, e3⟩, k.ok _ m1 G1 _ H1 p1 s1 r1 (vr_bl.mpr rfl)⟩
    · exact p1.elim⟩
end AM
set_option maxHeartbeats 4000000
namespace AM
open PySem PySem.Spec PyProof.Rows L2 Eb
section
variable {gd md : Bool} {c : Cl} {X : Cx} {k j n : Nat} {C : String} {F : AF} {dts : List T} {p pos : Pos} {e : Expr} {es : List Expr} {l : AA}
theorem se_makeC1 (h : MakA gd md X.prog X.w X.K X.mg X.base c.cls k C dts n F) (hg : gd = true → X.A.guards = some []) (hr : Room j X.A) (hk : k + 1 ≤ j) (tk : Pas md X c.W) (hgl : Gl X (PySem.Str.ofString C)) (ha : SA c X (e :: es) l) (hn : (e :: es).length = n := by rfl)
    (hdb : (PySem.Str.ofString C == ("__debug__" : Str)) = false := by decide) (he : starEach (e :: es) X.env = (false, eval e X.env) :: starEach es X.env := by rfl) (hpl : (backTo pos (starEach es X.env)).any (·.1) = false := by rfl) :
    SE c X (.Call (.Name (PySem.Str.ofString C) p) (e :: es) [] pos) (aMake C F dts l) := (se_make h hg hr hk tk hgl ha hn hdb he hpl).1
theorem se_makeC2 (h : MakA gd md X.prog X.w X.K X.mg X.base c.cls k C dts n F) (hg : gd = true → X.A.guards = some []) (hr : Room j X.A) (hk : k + 1 ≤ j) (tk : Pas md X c.W) (hgl : Gl X (PySem.Str.ofString C)) (ha : SA c X (e :: es) l) (hn : (e :: es).length = n := by rfl)
    (hdb : (PySem.Str.ofString C == ("__debug__" : Str)) = false := by decide) (he : starEach (e :: es) X.env = (false, eval e X.env) :: starEach es X.env := by rfl) (hpl : (backTo pos (starEach es X.env)).any (·.1) = false := by rfl) :
    SE c X (.Call (.Name (PySem.Str.ofString C) p) (e :: es) [] pos) (aMakeF C F dts l) := (se_make h hg hr hk tk hgl ha hn hdb he hpl).2
theorem se_makeC01 (h : MakA gd md X.prog X.w X.K X.mg X.base c.cls k C dts 0 F) (hg : gd = true → X.A.guards = some []) (hr : Room j X.A) (hk : k + 1 ≤ j) (tk : Pas md X c.W) (hgl : Gl X (PySem.Str.ofString C)) (hdb : (PySem.Str.ofString C == ("__debug__" : Str)) = false := by decide) :
    SE c X (.Call (.Name (PySem.Str.ofString C) p) [] [] pos) (aMake C F dts aNil) := (se_make0 h hg hr hk tk hgl hdb).1
theorem se_makeC02 (h : MakA gd md X.prog X.w X.K X.mg X.base c.cls k C dts 0 F) (hg : gd = true → X.A.guards = some []) (hr : Room j X.A) (hk : k + 1 ≤ j) (tk : Pas md X c.W) (hgl : Gl X (PySem.Str.ofString C)) (hdb : (PySem.Str.ofString C == ("__debug__" : Str)) = false := by decide) :
    SE c X (.Call (.Name (PySem.Str.ofString C) p) [] [] pos) (aMakeF C F dts aNil) := (se_make0 h hg hr hk tk hgl hdb).2
end
end AM
set_option maxHeartbeats 4000000
namespace AM
open PySem PySem.Spec PyProof.Rows L2 Eb
/-! ## lists of different lengths: == and != -/
def rLen0 (neg : Bool) : R2 := fun x y H Q => ∃ (a b : Addr) (us vs : List V), x = .ref a ∧ y = .ref b ∧ H a = some (.lst us) ∧ H b = some (.lst vs) ∧ us.length ≠ vs.length ∧ Q (.bl neg) H
theorem isL {P : Program} {w : World} {H : Hp} {h : Heap} {a : Addr} {us : List V} (ok : HOk P w H h) (e : H a = some (.lst us)) : ∃ its : Array Value, h.IsList a its ∧ its.size = us.length := by
  obtain ⟨_, its, n, rv, e⟩ := (show ObjOk P w H h a (.lst us) from ok a _ e)
  exact ⟨_, ⟨_, e, rfl, _, rfl⟩, by have := rv.length; simpa using this.symm⟩
theorem op_len0 {X : Cx} (hu : X.A.units + 64 < cLine) : OpR X (compareOp .Eq) (rLen0 false) := by
  intro pins s σ H x y v u Q I rx ry h
  obtain ⟨a, b, us, vs, rfl, rfl, ha, hb, ne, q⟩ := h
  cases (show v = Value.ref a from rx)
  cases (show u = Value.ref b from ry)
  obtain ⟨i1, l1, z1⟩ := isL I.hok ha
  obtain ⟨i2, l2, z2⟩ := isL I.hok hb
  exact SeqAt.eq_list_lengthsAt l1 l2 (by rw [z1, z2]; simpa using ne) (by omega) ⟨.bl false, H, I, rfl, q⟩
theorem op_nlen0 {X : Cx} (hu : X.A.units + 64 < cLine) : OpR X (compareOp .NotEq) (rLen0 true) := by
  intro pins s σ H x y v u Q I rx ry h
  obtain ⟨a, b, us, vs, rfl, rfl, ha, hb, ne, q⟩ := h
  cases (show v = Value.ref a from rx)
  cases (show u = Value.ref b from ry)
  obtain ⟨i1, l1, z1⟩ := isL I.hok ha
  obtain ⟨i2, l2, z2⟩ := isL I.hok hb
  obtain ⟨⟨c1, d1, t1, s1⟩, g1, e1, n1, q1⟩ := l1
  obtain ⟨⟨c2, d2, t2, s2⟩, g2, e2, n2, q2⟩ := l2
  simp only at e1 q1 e2 q2
  subst e1 q1 e2 q2
  exact richCompare_meets_room (op := .NotEq) ⟨_, g1, rfl⟩ ⟨_, g2, rfl⟩ PySem.F.slot_list_ne PySem.F.entry_list_ne (PySem.F.args_list_ne_2 _ _) (SeqAt.list_ne_lengthsAt a b i1 i2 n1 n2 d1 d2 s1 s2 (by rw [z1, z2]; simpa using ne))
    ⟨g1, g2, ⟨nofun, .bl true, H, I, rfl, q⟩⟩ (by omega)
@[simp] def eq0A : A2 := fun x y m P => match asX m x, y with | some xs, .lst [] => P (.bl xs.isEmpty) m | _, _ => False
@[simp] def ne0A : A2 := fun x y m P => match asX m x, y with | some xs, .lst [] => P (.bl (!xs.isEmpty)) m | _, _ => False
def rEq0 (K : PySem.W.Frag) : R2 := fun x y H Q => rLen0 false x y H Q ∨ rEqD K x y H Q
def rNe0 (K : PySem.W.Frag) : R2 := fun x y H Q => rLen0 true x y H Q ∨ rNeD K x y H Q
theorem op_eq0 {X : Cx} (hu : X.A.units + 64 < cLine) : OpR X (compareOp .Eq) (rEq0 X.K) := fun pins s σ H x y v u Q I rx ry h => h.elim (op_len0 hu pins s σ H x y v u Q I rx ry) (op_eqD hu pins s σ H x y v u Q I rx ry)
theorem op_ne0 {X : Cx} (hu : X.A.units + 64 < cLine) : OpR X (compareOp .NotEq) (rNe0 X.K) := fun pins s σ H x y v u Q I rx ry h => h.elim (op_nlen0 hu pins s σ H x y v u Q I rx ry) (op_neD hu pins s σ H x y v u Q I rx ry)
theorem nrm_asX {m : Mem} {x : T} {xs : List T} (h : asX m x = some xs) : nrm m x = .lst xs := by
  cases x with
  | lst ys => cases h; rfl
  | obj n =>
    simp only [asX] at h
    split at h
    · rename_i ys e; cases h; simp only [nrm, e]
    · cases h
  | _ => cases h
theorem sim_eq0 {Γ : Gm} : Sim2 Γ (rEq0 Γ.K) eq0A := by
  intro G m H x y v u P Q r hx hy h k
  unfold eq0A at h
  split at h
  · rename_i xs ex
    obtain ⟨a, us, rfl, ha, hv⟩ := rdX r hx ex
    obtain ⟨b, ws, rfl, hb, hw⟩ := rdX r hy (ts := []) rfl
    cases vrs_nil.mp hw
    cases xs with
    | nil =>
      refine .inr (sim_eq G m H x (.lst []) (.ref a) (.ref b) P Q r hx hy ?_ k)
      unfold eqA
      rw [nrm_asX ex]
      exact ⟨by simp [Shps], by simp [Shps], h⟩
    | cons t ts => exact .inl ⟨a, b, us, [], rfl, rfl, ha, hb, by rw [hv.length]; simp, k _ m G _ H h Stp.refl r (vr_bl.mpr rfl)⟩
  · exact h.elim
theorem sim_ne0 {Γ : Gm} : Sim2 Γ (rNe0 Γ.K) ne0A := by
  intro G m H x y v u P Q r hx hy h k
  unfold ne0A at h
  split at h
  · rename_i xs ex
    obtain ⟨a, us, rfl, ha, hv⟩ := rdX r hx ex
    obtain ⟨b, ws, rfl, hb, hw⟩ := rdX r hy (ts := []) rfl
    cases vrs_nil.mp hw
    cases xs with
    | nil =>
      refine .inr (sim_ne G m H x (.lst []) (.ref a) (.ref b) P Q r hx hy ?_ k)
      unfold neA
      rw [nrm_asX ex]
      exact ⟨by simp [Shps], by simp [Shps], h⟩
    | cons t ts => exact .inl ⟨a, b, us, [], rfl, rfl, ha, hb, by rw [hv.length]; simp, k _ m G _ H h Stp.refl r (vr_bl.mpr rfl)⟩
  · exact h.elim
@[simp] def mulTup : A2 := fun x y m P => match x, y with | .tup a, .int j => a ≠ [] ∧ 2 ≤ j ∧ j ≤ 1000 ∧ a.length ≤ 1000 ∧ P (.tup (List.replicate j.toNat a).flatten) m | _, _ => False
theorem sim_mulTup {Γ : Gm} : Sim2 Γ (rRepT Γ.K) mulTup := by
  intro G m H x y v u P Q r hx hy h k
  unfold mulTup at h
  split at h
  · rename_i a j
    cases vb_int hy
    obtain ⟨p1, us, rfl, e1, v1⟩ := rdT hx (ts := a) rfl
    have e : us.length = a.length := v1.length
    refine ⟨p1, _, us, rfl, rfl, e1, fun z => h.1 (by subst z; exact List.eq_nil_of_length_eq_zero e.symm), h.2.1, h.2.2.1, by rw [e]; exact h.2.2.2.1, fun p np => ?_⟩
    obtain ⟨s, r', w⟩ := new_tup r (vrs_flat v1 _) np
    exact k _ m G _ _ h.2.2.2.2 s r' w
  · exact h.elim
end AM
set_option maxHeartbeats 4000000
namespace AM
open PySem PySem.Spec PyProof.Rows L2 Eb
/-! ## repr tells texts apart -/
def escT (q c : Nat) : List Nat := if c = q ∨ c = 92 then [92, c] else [c]
theorem esc_inj {q : Nat} : ∀ {a b : List Nat}, a.flatMap (escT q) = b.flatMap (escT q) → a = b
  | [], [], _ => rfl
  | [], y :: b, h => by
    simp only [List.flatMap_nil, List.flatMap_cons] at h
    have := congrArg List.length h
    unfold escT at this
    split at this <;> simp at this
  | x :: a, [], h => by
    simp only [List.flatMap_nil, List.flatMap_cons] at h
    have := congrArg List.length h
    unfold escT at this
    split at this <;> simp at this
  | x :: a, y :: b, h => by
    simp only [List.flatMap_cons] at h
    have key : x = y ∧ a.flatMap (escT q) = b.flatMap (escT q) := by
      by_cases hx : x = q ∨ x = 92
      · by_cases hy : y = q ∨ y = 92
        · simp only [escT, if_pos hx, if_pos hy, List.cons_append, List.nil_append, List.cons.injEq, true_and] at h
          exact h
        · simp only [escT, if_pos hx, if_neg hy, List.cons_append, List.nil_append, List.cons.injEq] at h
          exact absurd (Or.inr h.1.symm) hy
      · by_cases hy : y = q ∨ y = 92
        · simp only [escT, if_neg hx, if_pos hy, List.cons_append, List.nil_append, List.cons.injEq] at h
          exact absurd (Or.inr h.1) hx
        · simp only [escT, if_neg hx, if_neg hy, List.cons_append, List.nil_append, List.cons.injEq] at h
          exact h
    rw [key.1, esc_inj key.2]
theorem fold_app (f : Nat → List Nat) : ∀ (l : List Nat) (acc : Array Nat), (l.foldl (fun out c => out ++ (f c).toArray) acc).toList = acc.toList ++ l.flatMap f
  | [], acc => by simp
  | x :: l, acc => by rw [List.foldl_cons, fold_app f l, List.flatMap_cons]; simp
theorem reprText_list (x : Str) : (reprText x).cps.toList = reprQuote x :: (x.cps.toList.flatMap (Builtin.Str.reprChar (reprQuote x)) ++ [reprQuote x]) := by
  unfold reprText
  rw [Array.toList_push, ← Array.foldl_toList, fold_app]
  simp
theorem prt : ∀ c : Fin 127, 32 ≤ (c : Nat) → Unicode.isPrintable (c : Nat) = true := by decide +kernel
def Asc (l : List Nat) : Prop := ∀ c ∈ l, 32 ≤ c ∧ c ≤ 126
theorem reprChar_asc {q c : Nat} (h : 32 ≤ c ∧ c ≤ 126) : Builtin.Str.reprChar q c = escT q c := by
  have p := prt ⟨c, by omega⟩ h.1
  have p : Unicode.isPrintable c = true := p
  unfold Builtin.Str.reprChar escT
  by_cases hc : c = q ∨ c = 92
  · rw [if_pos hc, if_pos (by simpa using hc)]
  · have h1 : ¬ (c == q || c == 92) = true := by simpa using hc
    have n10 : (c == 10) = false := beq_eq_false_iff_ne.mpr (by omega)
    have n13 : (c == 13) = false := beq_eq_false_iff_ne.mpr (by omega)
    have n9 : (c == 9) = false := beq_eq_false_iff_ne.mpr (by omega)
    rw [if_neg hc, if_neg h1, if_neg (by rw [n10]; decide), if_neg (by rw [n13]; decide), if_neg (by rw [n9]; decide), if_pos p]
theorem flat_asc {q : Nat} : ∀ {l : List Nat}, Asc l → l.flatMap (Builtin.Str.reprChar q) = l.flatMap (escT q)
  | [], _ => rfl
  | x :: l, h => by
    rw [List.flatMap_cons, List.flatMap_cons, reprChar_asc (h x List.mem_cons_self), flat_asc fun c hc => h c (List.mem_cons_of_mem _ hc)]
theorem repM_str (l : List Nat) : repM (.str l) = reprQuote (tx l) :: (l.flatMap (Builtin.Str.reprChar (reprQuote (tx l))) ++ [reprQuote (tx l)]) := by
  rw [repM_eq]
  simp only [toM, PyData.shown]
  rw [reprText_list, tx_list]
theorem repM_str_inj {a b : List Nat} (ha : Asc a) (hb : Asc b) (h : repM (.str a) = repM (.str b)) : a = b := by
  rw [repM_str, repM_str] at h
  simp only [List.cons.injEq] at h
  obtain ⟨e, h⟩ := h
  rw [e] at h
  have h := List.append_cancel_right h
  rw [flat_asc ha, flat_asc hb] at h
  exact esc_inj h
theorem quote_in (x : Str) : reprQuote x = 34 ∨ reprQuote x = 39 := by
  unfold reprQuote
  split
  · exact .inl rfl
  · exact .inr rfl
/-- how repr's text of what is no text begins -/
def HdOk (t : T) : Prop := ∃ c r, repM t = c :: r ∧ c ≠ 34 ∧ c ≠ 39
theorem hd_ne {t : T} {l : List Nat} (h : HdOk t) : repM t ≠ repM (.str l) := by
  obtain ⟨c, r, e, h1, h2⟩ := h
  rw [e, repM_str]
  intro z
  cases z
  exact (quote_in (tx l)).elim h1 h2
theorem hd_non : HdOk .non := ⟨78, q "one", by rw [repM_eq]; decide +kernel, by decide, by decide⟩
theorem hd_true : HdOk (.bl true) := ⟨84, q "rue", by rw [repM_eq]; decide +kernel, by decide, by decide⟩
theorem hd_false : HdOk (.bl false) := ⟨70, q "alse", by rw [repM_eq]; decide +kernel, by decide, by decide⟩
theorem hd_dct0 : HdOk (.dct []) := ⟨123, q "}", by rw [repM_eq]; decide +kernel, by decide, by decide⟩
theorem strApp_list (a b : Str) : (a ++ b).cps.toList = a.cps.toList ++ b.cps.toList := by show (a.cps ++ b.cps).toList = _; simp
theorem textFrom_hd : ∀ (ts : List Str) (k : Nat) (acc : Str), ∃ r, (textFrom k acc ts).cps.toList = acc.cps.toList ++ r
  | [], _, acc => ⟨[], by simp [textFrom]⟩
  | t :: ts, k, acc => by
    obtain ⟨r, e⟩ := textFrom_hd ts (k + 1) (acc ++ (if k > 0 then ", " else "" : String) ++ t)
    refine ⟨((if k > 0 then ", " else "" : String) : Str).cps.toList ++ t.cps.toList ++ r, ?_⟩
    rw [textFrom, e, strApp_list, strApp_list]
    simp only [List.append_assoc]
theorem hd_lst {xs : List T} : HdOk (.lst xs) := by
  obtain ⟨r, e⟩ := textFrom_hd (PyData.shownAll (toMs xs)) 0 "["
  refine ⟨91, r ++ ("]" : Str).cps.toList, ?_, by decide, by decide⟩
  rw [repM_eq]
  simp only [toM, PyData.shown]
  unfold listText
  rw [strApp_list, e]
  rfl
theorem hd_tup {xs : List T} : HdOk (.tup xs) := by
  refine ⟨40, (Str.join ", " (PyData.shownAll (toMs xs))).cps.toList ++ ((if (PyData.shownAll (toMs xs)).length == 1 then ",)" else ")" : String) : Str).cps.toList, ?_, by decide, by decide⟩
  rw [repM_eq]
  simp only [toM, PyData.shown]
  unfold tupleText
  rw [strApp_list, strApp_list, List.append_assoc]
  rfl
end AM
set_option maxHeartbeats 4000000
namespace AM
open PySem PySem.Spec PyProof.Rows L2 Eb
/-! ## own exceptions over any base of the language -/
structure OexG (K : PySem.W.Frag) (C : Addr) : Prop where
  base : ∃ (B newId initId : String) (bm : List Value), ExcBaseFacts B newId initId bm ∧ StoreFacts B bm "object.__setattr__" "object" ∧ PySem.W.excInitIn K C bm newId = true ∧ PySem.W.excOver K C bm = true
  dic : PySem.W.hasDictIn K C = true
  sa : PySem.W.findIn K (.ref C) "__setattr__" = some (some (.builtin "object.__setattr__"))
  sub : PySem.W.subIn K (.ref C) (.type "BaseException") = some true
  ty : PySem.W.typeIn K (.ref C) = some (.type "type")
  kp : PySem.W.keepIn K (.ref C) = true
section
variable {X : Cx} {pins : List (Addr × Obj)} {σ : L2.St} {H : Hp} {s : Shared} {a C dx : Addr} {f : Str} {y : V} {u : Value} {fs : List (Str × V)} {Q : Unit → Shared → Prop} {E : Value → Shared → Prop} {A : Around}
theorem setG_new (T : OexG X.K C) (I : Inv X pins σ H s) (e : H a = some (exo a C none)) (nf : PySem.W.findIn X.K (.ref C) f = some none) (ry : RelV y u)
    (h : ∀ d s', H d = none → d ≠ a → Inv X pins σ (upd (upd H d (exd d [(f, y)])) a (exo a C (some d))) s' → Q () s') : wpAny (model X.prog X.w) A (setAttr (.ref a) f u) Q E s := by
  obtain ⟨B, nI, iI, bm, FB, SF, q1, q2⟩ := T.base
  obtain ⟨cd, hc, hdi⟩ := PySem.W.any_some T.dic
  obtain ⟨t1, ho⟩ := exo_at I.hok e
  obtain ⟨hp, g, d, t, os⟩ := s
  have J0 : PySem.W.InstAt hp a _ C none := ⟨ho, rfl, rfl, trivial⟩
  refine PySem.W.set_plain I.kIn J0 T.sa ?_
  refine PySem.W.osa_openX SF I.kIn J0 q2 (r := none) (by unfold PySem.W.takerIn; rw [nf]; rfl) fun b => ?_
  have L := PySem.W.looks_clsIn (M := model X.prog X.w) I.kIn hc
  obtain ⟨n1, n2, n3, n4, n5, n6, n7, n8, n9, n10, n11⟩ := cd
  have hdi : n6 = true := hdi
  subst hdi
  have asz : a < hp.objs.size := Heap.lt_size ho
  have ane : a ≠ hp.objs.size := Nat.ne_of_lt asz
  have hN : H hp.objs.size = none := I.hok.fresh (Nat.le_refl _)
  show wpAny _ _ (Builtin.ObjectAttr.storeInOwnDict (.ref a) (.ref C) (.str f t) f u b) _ _ ⟨hp, g, d, t + 1, os⟩
  unfold Builtin.ObjectAttr.storeInOwnDict Builtin.ObjectAttr.ownDictForStores
  repeat (first | with_reducible refine wpAny_loadPart_at ho ?_ | with_reducible refine L.at ?_ | with_reducible refine PySem.HandSPX.store_in_new ?_ ?_ | wp_step | dsimp only)
  · exact ⟨_, #[], _, (Heap.get?_update_ne _ _ _ _ ane.symm).trans (Heap.get?_push_at rfl rfl), rfl, fun e he => absurd he (by simp), fun _ => rfl⟩
  · intro h' tk' hn hs
    show Q () ⟨h', g, d, tk', os⟩
    refine h hp.objs.size _ hN ane.symm ?_
    have g1 : (hp.push { cls := .type "dict", data := .dict #[] }).get? a = some { cls := .ref C, dict := none, data := .fields #[.ref t1, .none, .none, .none, .bool false, .none] } := Heap.get?_push_of_some _ ho
    have e1 : (hp.push { cls := .type "dict", data := .dict #[] }).Ns hp.objs.size (fun _ => none) := ⟨_, #[], _, Heap.get?_push_at rfl rfl, rfl, fun e he => absurd he (by simp), fun _ => rfl⟩
    have i1 := I.laid (t' := tk') (a := hp.objs.size) (o := exd hp.objs.size []) (fun b z q => Heap.get?_push_of_some _ q) (Nat.le_refl _) (exd_ok (Heap.Ns1.of_empty e1) fun _ => True.intro)
    have g2 := Heap.get?_update_self (fun o : Obj => { cls := o.cls, dict := some hp.objs.size, data := o.data, slots := o.slots }) g1 rfl
    have m1 : (upd H hp.objs.size (exd hp.objs.size [])) a = some (exo a C none) := by rw [upd_ne ane]; exact e
    have i2 := i1.write (t' := tk') (x := a) (e := a) (o := exo a C (some hp.objs.size)) (h' := (hp.push { cls := .type "dict", data := .dict #[] }).update a fun o => { cls := o.cls, dict := some hp.objs.size, data := o.data, slots := o.slots })
      (by rw [m1]; exact True.intro) (.inl rfl) (fun b z hb q => (Heap.get?_update_ne _ _ _ _ hb).trans q) ⟨_, g2⟩ (exo_ok g2)
    have m2 : (upd (upd H hp.objs.size (exd hp.objs.size [])) a (exo a C (some hp.objs.size))) hp.objs.size = some (exd hp.objs.size []) := by rw [upd_ne ane.symm, upd_same]
    have i3 := i2.write (t' := tk') (x := hp.objs.size) (e := hp.objs.size) (o := exd hp.objs.size [(f, y)]) (h' := h') (by rw [m2]; exact True.intro) (.inl rfl) (fun b z hb q => (hs.2 b hb).trans q)
      (let ⟨o, _, _, z, _⟩ := hn; ⟨o, z⟩) (exd_ok hn (relO_put (fs := []) ry fun _ => True.intro))
    have eq : upd (upd (upd H hp.objs.size (exd hp.objs.size [])) a (exo a C (some hp.objs.size))) hp.objs.size (exd hp.objs.size [(f, y)]) = upd (upd H hp.objs.size (exd hp.objs.size [(f, y)])) a (exo a C (some hp.objs.size)) := by
      funext b
      by_cases c1 : b = hp.objs.size
      · rw [c1, upd_same, upd_ne ane.symm, upd_same]
      · by_cases c2 : b = a
        · rw [c2, upd_ne ane, upd_same, upd_same]
        · rw [upd_ne c1, upd_ne c2, upd_ne c1, upd_ne c2, upd_ne c1]
    rw [eq] at i3
    exact i3
theorem setG_old (T : OexG X.K C) (I : Inv X pins σ H s) (e : H a = some (exo a C (some dx))) (ed : H dx = some (exd dx fs)) (hl : fs.length ≤ 900) (nf : PySem.W.findIn X.K (.ref C) f = some none) (ry : RelV y u)
    (h : ∀ s', Inv X pins σ (upd H dx (exd dx ((f, y) :: fs))) s' → Q () s') : wpAny (model X.prog X.w) A (setAttr (.ref a) f u) Q E s := by
  obtain ⟨B, nI, iI, bm, FB, SF, q1, q2⟩ := T.base
  obtain ⟨cd, hc, hdi⟩ := PySem.W.any_some T.dic
  obtain ⟨t1, ho⟩ := exo_at I.hok e
  obtain ⟨mA, hns, rel⟩ := exd_at I.hok ed
  have hw := within_of rel
  obtain ⟨hp, g, d, t, os⟩ := s
  obtain ⟨oD, _, _, hoD, _, _⟩ := hns.count hw
  have J0 : PySem.W.InstAt hp a _ C (some oD) := ⟨ho, rfl, rfl, hoD⟩
  refine PySem.W.set_plain I.kIn J0 T.sa ?_
  refine PySem.W.osa_openX SF I.kIn J0 q2 (r := none) (by unfold PySem.W.takerIn; rw [nf]; rfl) fun b => ?_
  have L := PySem.W.looks_clsIn (M := model X.prog X.w) I.kIn hc
  obtain ⟨n1, n2, n3, n4, n5, n6, n7, n8, n9, n10, n11⟩ := cd
  have hdi : n6 = true := hdi
  subst hdi
  show wpAny _ _ (Builtin.ObjectAttr.storeInOwnDict (.ref a) (.ref C) (.str f t) f u b) _ _ ⟨hp, g, d, t + 1, os⟩
  unfold Builtin.ObjectAttr.storeInOwnDict Builtin.ObjectAttr.ownDictForStores
  repeat (first | with_reducible refine wpAny_loadPart_at ho ?_ | with_reducible refine L.at ?_ | with_reducible refine PySem.OEX.store_in_old hns hw (by rw [List.length_map]; omega) ?_ | wp_step | dsimp only)
  intro h' tk' hn hs
  show Q () ⟨h', g, d, tk', os⟩
  exact h _ (I.write (t' := tk') (x := dx) (e := dx) (o := exd dx ((f, y) :: fs)) (by rw [ed]; exact True.intro) (.inl rfl) (fun b z hb q => (hs.2 b hb).trans q) (let ⟨o, _, _, z, _⟩ := hn; ⟨o, z⟩) (exd_ok hn (relO_put ry rel)))
end
/-- self.f = e within such an __init__ -/
def tOstG (K : PySem.W.Frag) (f : Str) (to te : TE) : TS := fun D σ H => te σ H fun y H1 => to σ H1 fun x H2 => ∃ a C : Addr, x = .ref a ∧ OexG K C ∧ PySem.W.findIn K (.ref C) f = some none ∧
  ((H2 a = some (exo a C none) ∧ ∀ d, H2 d = none → d ≠ a → D.nx σ (upd (upd H2 d (exd d [(f, y)])) a (exo a C (some d)))) ∨ ∃ (d : Addr) (fs : List (Str × V)), H2 a = some (exo a C (some d)) ∧ H2 d = some (exd d fs) ∧ fs.length ≤ 900 ∧ D.nx σ (upd H2 d (exd d ((f, y) :: fs))))
section
variable {X : Cx} {o e : Expr} {es : List Expr} {to te : TE} {ta : TA} {f : Str} {p p' pos : Pos}
theorem psG_ost (ho : PE X o to) (he : PE X e te) (hs : swapsWith e (some (.Attribute o f p')) pos.line X.env = pure false := by rfl) : PS X (.Assign [.Attribute o f p'] e pos) (tOstG X.K f to te) := by
  refine ⟨fun pins s σ H D I h => ?_⟩
  refine plainObj_wpAny_Assign_Attribute (thn (he.run pins s σ H _ I h) fun v s1 ⟨y, H1, I1, r1, q1⟩ => thn (ho.run pins s1 σ H1 _ I1 q1) fun w s2 z => ?_) hs
  obtain ⟨x, H2, I2, r2, a, C, rfl, T, nf, q⟩ := z
  obtain rfl : w = Value.ref a := r2
  exact q.elim (fun ⟨ea, q⟩ => setG_new T I2 ea nf r1 fun d s' n ne J => ⟨σ, _, J, q d n ne⟩) fun ⟨d, fs, ea, ed, hl, q⟩ => setG_old T I2 ea ed hl nf r1 fun s' J => ⟨σ, _, J, q⟩
/-- C(e, ..) -/
theorem pmkG {CX : CXT} {x : Str} {C fI : Addr} {k : Nat} {fd : FuncData} {ps : List Str} {sp : Sp} (T : OexG X.K C) (iC : PySem.W.findIn X.K (.ref C) "__init__" = some (some (.ref fI))) (tI : PySem.W.typeIn X.K (.ref fI) = some (.type "function")) (F1 : FnOk X.prog X.w X.K X.mg X.base CX k fI fd ps sp)
    (hr : Room (k + 1) X.A) (hb : Binds X.K fd ps []) (hx : Passes CX X (fun _ _ _ => False)) (hg : Gl X x) (hm : X.mg x = some (.ref C)) (ha : PA X (e :: es) ta) (hdb : (x == ("__debug__" : Str)) = false := by decide)
    (he : starEach (e :: es) X.env = (false, eval e X.env) :: starEach es X.env := by rfl) (hpl : (backTo pos (starEach es X.env)).any (·.1) = false := by rfl) : PMk X (.Call (.Name x p) (e :: es) [] pos) (tMkO C sp [] ta) := by
  intro pins s σ H Q I h
  obtain ⟨B, nI, iI, bm, FB, SF, q1, q2⟩ := T.base
  refine wpAny_Call_Name_kw (ld_glob I hg hm ?_ hdb)
  refine PySem.W.callWith_K (h₀ := X.base) I.ok.mod.kin T.kp (thn (ha.run pos pins s σ H _ I h) fun us s1 ⟨vs, H1, I1, r1, hz, qq⟩ => ⟨I1.kIn, ?_⟩) he hpl
  obtain ⟨hp, g, dr, tk, os⟩ := s1
  obtain ⟨nm, N, qn, bs, bmo, hdct, sn, sb, ab, col, dd, k0, k1, k2, k3, k5, hC, hT⟩ := PySem.W.excInit_of I1.kIn q1
  have fr : H1 (hp.objs.size + 1) = none := I1.hok.fresh (Nat.le_succ _)
  have hq := qq (hp.objs.size + 1) fr
  have stay : ∀ b z, hp.get? b = some z → ((hp.push (PySem.W.kdv_tup us)).push (PySem.HandSPX.excO C hp.objs.size)).get? b = some z := fun b z w => Heap.get?_push_of_some _ (Heap.get?_push_of_some _ w)
  have at_ : ((hp.push (PySem.W.kdv_tup us)).push (PySem.HandSPX.excO C hp.objs.size)).get? (hp.objs.size + 1) = some (PySem.HandSPX.excO C hp.objs.size) := by heap_get
  have J := I1.laid (t' := tk) (h' := (hp.push (PySem.W.kdv_tup us)).push (PySem.HandSPX.excO C hp.objs.size)) stay (Nat.le_succ _) (exo_ok (C := C) (d := none) at_)
  rw [List.append_nil] at hq
  have lv := F1.len _ _ _ _ hq
  have lu : us.length = vs.length := r1.length.symm
  have hrun := F1.run (X.A.under (.builtin "type.__call__" ⟨.ref C :: us, []⟩)) X.stack _ _ ⟨Value.ref (hp.objs.size + 1) :: us, []⟩ (Value.ref (hp.objs.size + 1) :: us) (V.ref (hp.objs.size + 1) :: vs) _ (fun _ _ _ => False) (hr.make C us []) (J.env0.make C us [])
    (by have := hb _ (Value.ref (hp.objs.size + 1) :: us) J.kIn (by rw [List.append_nil, List.length_cons, lu]; simpa using lv); simpa using this) (.cons rfl r1) hq
  refine wpAny_call (PySem.HandSPX.call_own FB hT hC (PySem.W.looks_findIn I1.kIn iC) (fun w => PySem.W.bind_fn I1.kIn w tI) (by rw [List.nil_append, lu, sizeLine_eq]; omega) (codeAny_mono hrun fun r s' z => ?_))
  rcases r with er | (_ | _ | _ | w)
  · exact hx pins σ _ _ er s' J z
  all_goals try exact z.elim
  · obtain ⟨v, H2, eos, bare, un, ok2, rv, rfl, d, fs, ea, ed, nd, fin⟩ := z
    obtain ⟨h2, g2, d2, t2, os2⟩ := s'
    exact ⟨rv, mk_end (raises_own T.sub T.ty) I1 (Nat.le_succ _) stay un ok2 eos bare ea ed nd fin⟩
end
/-! ## the head's look at them, and their promises -/
def mroX (B : String) : List Value := [.type B, .type "Exception", .type "BaseException", .type "object"]
def oexG (B nI : String) (K : PySem.W.Frag) (C : Addr) : Bool := (PySem.W.excInitIn K C (mroX B) nI && (PySem.W.excOver K C (mroX B) && PySem.W.hasDictIn K C)) &&
  (He.eqO (PySem.W.findIn K (.ref C) "__setattr__") (some (some (.builtin "object.__setattr__"))) && (decide (PySem.W.subIn K (.ref C) (.type "BaseException") = some true) && (decide (PySem.W.typeIn K (.ref C) = some (.type "type")) && PySem.W.keepIn K (.ref C))))
theorem oexG_ok {B nI iI : String} {K : PySem.W.Frag} {C : Addr} (FB : ExcBaseFacts B nI iI (mroX B)) (SF : StoreFacts B (mroX B) "object.__setattr__" "object") (q : oexG B nI K C = true) : OexG K C := by
  obtain ⟨q1, q2⟩ := He.ba q
  obtain ⟨a1, q1⟩ := He.ba q1
  obtain ⟨a2, a3⟩ := He.ba q1
  obtain ⟨b1, q2⟩ := He.ba q2
  obtain ⟨b2, q2⟩ := He.ba q2
  obtain ⟨b3, b4⟩ := He.ba q2
  exact ⟨⟨B, nI, iI, mroX B, FB, SF, a1, a2⟩, a3, He.eqO_ok b1, of_decide_eq_true b2, of_decide_eq_true b3, b4⟩
/-- an own exception class of one field -/
structure Oge (K : PySem.W.Frag) (mg : Str → Option Value) (x f : Str) : Prop where
  gC : mg x = some (.ref (He.ga K x))
  cls : OexG K (He.ga K x)
  xf : XfC K (He.ga K x)
  no : PySem.W.findIn K (.ref (He.ga K x)) f = some none
  ini : PySem.W.findIn K (.ref (He.ga K x)) "__init__" = some (some (.ref (He.ma K (He.ga K x) "__init__")))
  tI : PySem.W.typeIn K (.ref (He.ma K (He.ga K x) "__init__")) = some (.type "function")
/-- .. of two fields -/
structure Og2 (K : PySem.W.Frag) (mg : Str → Option Value) (x f g : Str) : Prop extends Oge K mg x f where
  no2 : PySem.W.findIn K (.ref (He.ga K x)) g = some none
def ogeL (B nI : String) (x f : Str) (K : PySem.W.Frag) : Bool := oexG B nI K (He.ga K x) && (xfB K (He.ga K x) && (He.eqO (PySem.W.findIn K (.ref (He.ga K x)) f) (some none) && (He.eqO (PySem.W.findIn K (.ref (He.ga K x)) "__init__") (some (some (.ref (He.ma K (He.ga K x) "__init__")))) && decide (PySem.W.typeIn K (.ref (He.ma K (He.ga K x) "__init__")) = some (.type "function")))))
theorem ogeL_ok {B nI iI : String} {K : PySem.W.Frag} {mg : Str → Option Value} {x f : Str} (FB : ExcBaseFacts B nI iI (mroX B)) (SF : StoreFacts B (mroX B) "object.__setattr__" "object") (g : mg x = some (.ref (He.ga K x))) (h : ogeL B nI x f K = true) : Oge K mg x f := by
  obtain ⟨h1, h⟩ := He.ba h
  obtain ⟨h2, h⟩ := He.ba h
  obtain ⟨h3, h⟩ := He.ba h
  obtain ⟨h4, h5⟩ := He.ba h
  exact ⟨g, oexG_ok FB SF h1, xfB_ok h2, He.eqO_ok h3, He.eqO_ok h4, of_decide_eq_true h5⟩
def og2L (B nI : String) (x f g : Str) (K : PySem.W.Frag) : Bool := ogeL B nI x f K && He.eqO (PySem.W.findIn K (.ref (He.ga K x)) g) (some none)
theorem og2L_ok {B nI iI : String} {K : PySem.W.Frag} {mg : Str → Option Value} {x f g : Str} (FB : ExcBaseFacts B nI iI (mroX B)) (SF : StoreFacts B (mroX B) "object.__setattr__" "object") (gl : mg x = some (.ref (He.ga K x))) (h : og2L B nI x f g K = true) : Og2 K mg x f g := by
  obtain ⟨h1, h2⟩ := He.ba h
  exact ⟨ogeL_ok FB SF gl h1, He.eqO_ok h2⟩
def spExJ (C : Addr) (f g : Str) : Sp := fun vs H Q _ => ∃ (a : Addr) (v u : V), vs = [.ref a, v, u] ∧ H a = some (exo a C none) ∧
  ∀ dx, H dx = none → dx ≠ a → Q .non (upd (upd (upd H dx (exd dx [(f, v)])) a (exo a C (some dx))) dx (exd dx [(g, u), (f, v)]))
structure ExiG (P : Program) (w : World) (K : PySem.W.Frag) (mg : Str → Option Value) (base : Heap) (x f : Str) : Prop where
  ex : ∃ (fd : FuncData) (ps : List Str), FnOk P w K mg base C8.CX0 1 (He.ma K (He.ga K x) "__init__") fd ps (spExI (He.ga K x) f) ∧ Binds K fd ps []
  t : Oge K mg x f
structure Exi2 (P : Program) (w : World) (K : PySem.W.Frag) (mg : Str → Option Value) (base : Heap) (x f g : Str) : Prop where
  ex : ∃ (fd : FuncData) (ps : List Str), FnOk P w K mg base C8.CX0 1 (He.ma K (He.ga K x) "__init__") fd ps (spExJ (He.ga K x) f g) ∧ Binds K fd ps []
  t : Og2 K mg x f g
section
variable {P : Program} {w : World} {K : PySem.W.Frag} {mg : Str → Option Value} {base : Heap} {x qual : Str} {params : Arguments} {body : List Stmt} {scope : Scope} {N ps : List Str} {fl f2 : Str}
theorem exiG_of (h : ∃ fd, FunD K "__init__" qual params body scope [] [] (He.ma K (He.ga K x) "__init__") fd) (t : Oge K mg x fl) (S : FnScope N ps scope) (bd : Bd "__init__" qual params body scope ps) (len : ∀ vs H Q E, spExI (He.ga K x) fl vs H Q E → vs.length = ps.length)
    (hb : By P w K mg base 0 (He.ma K (He.ga K x) "__init__") N qual body scope (spExI (He.ga K x) fl)) : ExiG P w K mg base x fl :=
  let ⟨fd, F⟩ := h
  ⟨⟨fd, ps, okD F S len hb, F.bindsN bd⟩, t⟩
theorem exi2_of (h : ∃ fd, FunD K "__init__" qual params body scope [] [] (He.ma K (He.ga K x) "__init__") fd) (t : Og2 K mg x fl f2) (S : FnScope N ps scope) (bd : Bd "__init__" qual params body scope ps) (len : ∀ vs H Q E, spExJ (He.ga K x) fl f2 vs H Q E → vs.length = ps.length)
    (hb : By P w K mg base 0 (He.ma K (He.ga K x) "__init__") N qual body scope (spExJ (He.ga K x) fl f2)) : Exi2 P w K mg base x fl f2 :=
  let ⟨fd, F⟩ := h
  ⟨⟨fd, ps, okD F S len hb, F.bindsN bd⟩, t⟩
end
theorem exc_left {H : Hp} {a dx C : Addr} {o1 o2 : HO} {fs gs : List (Str × V)} (na : H a = none) (ne : dx ≠ a) : upd (del (upd (upd (upd (upd H a o1) dx (exd dx fs)) a o2) dx (exd dx gs)) a) dx (.xd gs) = upd H dx (.xd gs) := by
  funext b
  by_cases hb : b = dx
  · rw [hb, upd_same, upd_same]
  · rw [upd_ne hb, upd_ne hb]
    by_cases ha : b = a
    · rw [ha, del_same, na]
    · rw [del_ne ha, upd_ne hb, upd_ne ha, upd_ne hb, upd_ne ha]
theorem exc_left1 {H : Hp} {a dx C : Addr} {o1 o2 : HO} {fs : List (Str × V)} (na : H a = none) (ne : dx ≠ a) : upd (del (upd (upd (upd H a o1) dx (exd dx fs)) a o2) a) dx (.xd fs) = upd H dx (.xd fs) := by
  funext b
  by_cases hb : b = dx
  · rw [hb, upd_same, upd_same]
  · rw [upd_ne hb, upd_ne hb]
    by_cases ha : b = a
    · rw [ha, del_same, na]
    · rw [del_ne ha, upd_ne ha, upd_ne hb, upd_ne ha]
theorem pmk_g1 {X : Cx} {x f : Str} {j : Nat} {e : Expr} {ta : TA} {p pos : Pos} (c : ExiG X.prog X.w X.K X.mg X.base x f) (hr : Room j X.A) (hj : 2 ≤ j) (hg : Gl X x) (ha : PA X [e] ta) (hdb : (x == ("__debug__" : Str)) = false := by decide)
    (he : starEach [e] X.env = (false, eval e X.env) :: starEach [] X.env := by rfl) (hpl : (backTo pos (starEach [] X.env)).any (·.1) = false := by rfl) : PMk X (.Call (.Name x p) [e] [] pos) (tMkE (He.ga X.K x) f ta) := by
  obtain ⟨fd, ps, F, b⟩ := c.ex
  have m := pmkG (p := p) (pos := pos) c.t.cls c.t.ini c.t.tI F (hr.mono hj) b C8.pass0 hg c.t.gC (pa_j ha) hdb he hpl
  intro pins s σ H Q I h
  refine m pins s σ H Q I ⟨_, h, ?_⟩
  rintro vs H1 ⟨v, rfl, q⟩
  refine ⟨by simp, fun a na => ⟨a, v, rfl, upd_same, fun dx nd ne => ?_⟩⟩
  have nd' : H1 dx = none := by rwa [upd_ne ne] at nd
  refine ⟨rfl, dx, [(f, v)], upd_same, by rw [upd_ne ne, upd_same], nd', ?_⟩
  have e := exc_left1 (C := He.ga X.K x) (o1 := exo a (He.ga X.K x) none) (o2 := exo a (He.ga X.K x) (some dx)) (fs := [(f, v)]) na ne
  exact Eq.mpr (congrArg _ e) (q dx nd')
def tMkE2 (C : Addr) (f g : Str) (ta : TA) : L2.St → Hp → XK → Prop := fun σ H Q => ta σ H fun vs H1 => ∃ v u, vs = [v, u] ∧ ∀ d, H1 d = none → Q (.ref C) (some d) (upd H1 d (.xd [(g, u), (f, v)]))
theorem pmk_g2 {X : Cx} {x f g : Str} {j : Nat} {e e2 : Expr} {ta : TA} {p pos : Pos} (c : Exi2 X.prog X.w X.K X.mg X.base x f g) (hr : Room j X.A) (hj : 2 ≤ j) (hg : Gl X x) (ha : PA X [e, e2] ta) (hdb : (x == ("__debug__" : Str)) = false := by decide)
    (he : starEach [e, e2] X.env = (false, eval e X.env) :: starEach [e2] X.env := by rfl) (hpl : (backTo pos (starEach [e2] X.env)).any (·.1) = false := by rfl) : PMk X (.Call (.Name x p) [e, e2] [] pos) (tMkE2 (He.ga X.K x) f g ta) := by
  obtain ⟨fd, ps, F, b⟩ := c.ex
  have m := pmkG (p := p) (pos := pos) c.t.cls c.t.ini c.t.tI F (hr.mono hj) b C8.pass0 hg c.t.gC (pa_j ha) hdb he hpl
  intro pins s σ H Q I h
  refine m pins s σ H Q I ⟨_, h, ?_⟩
  rintro vs H1 ⟨v, u, rfl, q⟩
  refine ⟨by simp, fun a na => ⟨a, v, u, rfl, upd_same, fun dx nd ne => ?_⟩⟩
  have nd' : H1 dx = none := by rwa [upd_ne ne] at nd
  refine ⟨rfl, dx, [(g, u), (f, v)], by rw [upd_ne ne.symm, upd_same], upd_same, nd', ?_⟩
  have e := exc_left (C := He.ga X.K x) (o1 := exo a (He.ga X.K x) none) (o2 := exo a (He.ga X.K x) (some dx)) (fs := [(f, v)]) (gs := [(g, u), (f, v)]) na ne
  exact Eq.mpr (congrArg _ e) (q dx nd')
section
variable {c : Cl} {X : Cx} {j : Nat} {e e2 : Expr} {a : AE} {l : AA} {p pos pos' : Pos}
theorem s_raiseG {x f : String} (cx : ExiG X.prog X.w X.K X.mg X.base (PySem.Str.ofString x) (PySem.Str.ofString f)) (hc : X.calm = true) (tk : Takes X c.W) (hr : Room j X.A) (hj : 2 ≤ j) (hg : Gl X (PySem.Str.ofString x)) (he : SE c X e a) (hdb : (PySem.Str.ofString x == ("__debug__" : Str)) = false := by decide)
    (hse : starEach [e] X.env = (false, eval e X.env) :: starEach [] X.env := by rfl) (hpl : (backTo pos (starEach [] X.env)).any (·.1) = false := by rfl) :
    S1 c X (.Raise (some (.Call (.Name (PySem.Str.ofString x) p) [e] [] pos)) none pos') (sRaise x f a) := ps_weak (ps_raise hc tk (pmk_g1 cx hr hj hg (sa_cons he sa_nil hse) hdb hse hpl)) fun E σ H ⟨G, z, m, D, mr, sr, h, k⟩ => by
  refine ⟨G, z, m, fun ts m1 => ∃ t, ts = [t] ∧ D.ex z (x, [(f, t)]) m1, D.ex z, mr, sr, ?_, k.ex' mr.nd sr fun ts m1 G1 vs H1 ⟨t, e1, p1⟩ s1 r1 v1 => ?_⟩
  · have key : a z m (fun t m1 => D.ex z (x, [(f, t)]) m1) (D.ex z) := h
    simpa using key
  · obtain ⟨vr, -⟩ := v1
    rw [e1] at vr
    obtain ⟨v, r, rfl, hv, hn⟩ := vrs_cons.mp vr
    rw [vrs_nil.mp hn]
    refine ⟨v, rfl, fun d hd => ?_⟩
    have s2 : Stp G1 H1 G1 (upd H1 d (.xd [(PySem.Str.ofString f, v)])) := Stp.new hd
    exact k.ex z _ m1 G1 σ _ _ _ p1 (s1.trans s2).ss (r1.new hd) (sr.step mr.nd (s1.trans s2)) ⟨rfl, d, _, rfl, r1.cold hd, upd_same, vrf_cons.mpr ⟨_, _, rfl, s2.vr hv, vrf_nil.mpr rfl⟩⟩
/-- raise of an exception of two fields -/
def sRaise2 (C f g : String) (l : AA) : AS := fun D z m => l z m (fun ts m1 => ∃ t u, ts = [t, u] ∧ D.ex z (C, [(g, u), (f, t)]) m1) (D.ex z)
theorem s_raise2 {x f g : String} (cx : Exi2 X.prog X.w X.K X.mg X.base (PySem.Str.ofString x) (PySem.Str.ofString f) (PySem.Str.ofString g)) (hc : X.calm = true) (tk : Takes X c.W) (hr : Room j X.A) (hj : 2 ≤ j) (hg : Gl X (PySem.Str.ofString x)) (hl : SA c X [e, e2] l) (hdb : (PySem.Str.ofString x == ("__debug__" : Str)) = false := by decide)
    (hse : starEach [e, e2] X.env = (false, eval e X.env) :: starEach [e2] X.env := by rfl) (hpl : (backTo pos (starEach [e2] X.env)).any (·.1) = false := by rfl) :
    S1 c X (.Raise (some (.Call (.Name (PySem.Str.ofString x) p) [e, e2] [] pos)) none pos') (sRaise2 x f g l) := ps_weak (ps_raise hc tk (pmk_g2 cx hr hj hg hl hdb hse hpl)) fun E σ H ⟨G, z, m, D, mr, sr, h, k⟩ => by
  refine ⟨G, z, m, fun ts m1 => ∃ t u, ts = [t, u] ∧ D.ex z (x, [(g, u), (f, t)]) m1, D.ex z, mr, sr, h, k.ex' mr.nd sr fun ts m1 G1 vs H1 ⟨t, u, e1, p1⟩ s1 r1 v1 => ?_⟩
  obtain ⟨vr, -⟩ := v1
  rw [e1] at vr
  obtain ⟨v, r, rfl, hv, hn⟩ := vrs_cons.mp vr
  obtain ⟨v', r', rfl, hv', hn'⟩ := vrs_cons.mp hn
  rw [vrs_nil.mp hn']
  refine ⟨v, v', rfl, fun d hd => ?_⟩
  have s2 : Stp G1 H1 G1 (upd H1 d (.xd [(PySem.Str.ofString g, v'), (PySem.Str.ofString f, v)])) := Stp.new hd
  exact k.ex z _ m1 G1 σ _ _ _ p1 (s1.trans s2).ss (r1.new hd) (sr.step mr.nd (s1.trans s2)) ⟨rfl, d, _, rfl, r1.cold hd, upd_same, vrf_cons.mpr ⟨_, _, rfl, s2.vr hv', vrf_cons.mpr ⟨_, _, rfl, s2.vr hv, vrf_nil.mpr rfl⟩⟩⟩
end
end AM
set_option maxHeartbeats 4000000
namespace AM
open PySem PySem.Spec PyProof.Rows L2 Eb
/-! ## + of an instance and a value of the language's own, on either side -/
def addFill (T : String) : Bool := T == "int" || T == "bool"
theorem ft_int : fillsNumberSlot (.type "int") "add" = pure true := PySem.F.fills_int_add
theorem ft_lk {T : String} {f r : Option Value} {b : Bool} (h1 : typeLookup (.type T) (PySem.dunder "add") = pure f) (h2 : typeLookup (.type T) (PySem.dunderR "add") = pure r) (h3 : ((f.isSome && !isSeqSlot f) || (r.isSome && !isSeqSlot r)) = b) : fillsNumberSlot (.type T) "add" = pure b := by
  simp only [fillsNumberSlot, h1, h2, pure_bind, h3]
theorem ra_bT : ∀ T ∈ bT, ∃ f r, typeLookup (.type T) (PySem.dunder "add") = pure f ∧ typeLookup (.type T) (PySem.dunderR "add") = pure r ∧ ((f.isSome && !isSeqSlot f) || (r.isSome && !isSeqSlot r)) = addFill T := by
  intro T hT
  simp only [bT, List.mem_cons, List.not_mem_nil, or_false] at hT
  rcases hT with rfl | rfl | rfl | rfl | rfl | rfl | rfl
  · exact ⟨some (.builtin "int.__add__"), some (.builtin "int.__radd__"), by rw [typeLookup_type, builtinLookup_eq_fast]; kernel_rfl, by rw [typeLookup_type, builtinLookup_eq_fast]; kernel_rfl, by decide +kernel⟩
  · exact ⟨some (.builtin "int.__add__"), some (.builtin "int.__radd__"), by rw [typeLookup_type, builtinLookup_eq_fast]; kernel_rfl, by rw [typeLookup_type, builtinLookup_eq_fast]; kernel_rfl, by decide +kernel⟩
  · exact ⟨some (.builtin "str.__add__"), none, by rw [typeLookup_type, builtinLookup_eq_fast]; kernel_rfl, by rw [typeLookup_type, builtinLookup_eq_fast]; kernel_rfl, by decide +kernel⟩
  · exact ⟨some (.builtin "list.__add__"), none, by rw [typeLookup_type, builtinLookup_eq_fast]; kernel_rfl, by rw [typeLookup_type, builtinLookup_eq_fast]; kernel_rfl, by decide +kernel⟩
  · exact ⟨some (.builtin "tuple.__add__"), none, by rw [typeLookup_type, builtinLookup_eq_fast]; kernel_rfl, by rw [typeLookup_type, builtinLookup_eq_fast]; kernel_rfl, by decide +kernel⟩
  · exact ⟨none, none, by rw [typeLookup_type, builtinLookup_eq_fast]; kernel_rfl, by rw [typeLookup_type, builtinLookup_eq_fast]; kernel_rfl, by decide +kernel⟩
  · exact ⟨none, none, by rw [typeLookup_type, builtinLookup_eq_fast]; kernel_rfl, by rw [typeLookup_type, builtinLookup_eq_fast]; kernel_rfl, by decide +kernel⟩
theorem ft_bT {T : String} (hT : T ∈ bT) : fillsNumberSlot (.type T) "add" = pure (addFill T) := let ⟨_, _, h1, h2, h3⟩ := ra_bT T hT; ft_lk h1 h2 h3
theorem su_bT {T : String} (hT : T ∈ bT) (C : Addr) : isSubtype (.type T) (.ref C) = pure false := by
  simp only [bT, List.mem_cons, List.not_mem_nil, or_false] at hT
  rcases hT with rfl | rfl | rfl | rfl | rfl | rfl | rfl <;> (rw [isSubtype_type]; kernel_rfl)
section
variable {K : PySem.W.Frag} {C f g : Addr}
theorem np_own {M : Model} {h : Heap} {y : Option Value} (X : K.In h) (hs : PySem.W.findIn K (.ref C) (PySem.dunder "add") = some (some (.ref f))) (hr : PySem.W.findIn K (.ref C) (PySem.dunderR "add") = some y) (hy : y = none ∨ ∃ g, y = some (.ref g)) : PySem.W.Looks M h (numberSlotInPython (.ref C) "add") true := by
  intro A Q E s k q
  unfold numberSlotInPython
  refine wpAny_bind (PySem.W.looks_findIn X hs A _ E s k ?_)
  refine wpAny_bind (wpAny_pure ?_)
  refine wpAny_bind (PySem.W.looks_findIn X hr A _ E s k ?_)
  rcases hy with rfl | ⟨g, rfl⟩
  · exact wpAny_bind (wpAny_pure (wpAny_pure q))
  · exact wpAny_bind (wpAny_pure (wpAny_pure q))
variable {prog : Program} {w : World} {A : Around} {E : Value → Shared → Prop} {s : Shared} {x L : Addr} {h₀ : Heap} {m : Str → Option Value} {ox : Obj} {od : Option Obj} {b : Value} {T : String} {Q : Value → Shared → Prop} {y : Option Value}
/-- instance + value -/
theorem addL_K (F : Fr h₀ L s.heap m) (X₀ : K.In h₀) (I : PySem.W.InstAt s.heap x ox C od) (hb : PySem.W.Looks (model prog w) s.heap (typeOf b) (.type T)) (hT : T ∈ bT) (hc : PySem.W.selfFirst K C = true)
    (hs : PySem.W.findIn K (.ref C) (PySem.dunder "add") = some (some (.ref f))) (hf : PySem.W.isFn K (.ref f) = true) (hr : PySem.W.findIn K (.ref C) (PySem.dunderR "add") = some y) (hy : y = none ∨ ∃ g, y = some (.ref g))
    (h : wpAny (model prog w) A (call (.ref f) [.ref x, b]) (PySem.W.CmpBack Q) E s) : wpAny (model prog w) A (binaryOp .Add (.ref x) b) Q E s := by
  have X := X₀.keeps F.keep
  obtain ⟨cd, hcd, hm⟩ := PySem.W.any_some hc
  obtain ⟨rest, hm⟩ : ∃ rest, cd.mro = .ref C :: rest := by
    generalize cd.mro = l at hm
    match l, hm with
    | _ :: r, e => exact ⟨r, by cases (beq_iff_eq.mp e); rfl⟩
  have go1 : ∀ {R : Option Value → Shared → Prop}, (∀ v s', Q v s' → R (some v) s') → wpAny (model prog w) A (tryMethod (.ref x) (PySem.dunder "add") b) R E s := fun {R} hR => by
    unfold tryMethod
    refine wpAny_bind (PySem.W.special_fn X I hs (beq_iff_eq.mp hf) (wpAny_mono h (fun v s' hv => ?_) fun _ _ e => e))
    cases v <;> first | exact False.elim hv | exact wpAny_pure (hR _ _ hv)
  obtain ⟨fo, ro, l1, l2, l3⟩ := ra_bT T hT
  unfold binaryOp
  refine wpAny_holding (wpAny_bind ?_)
  show wpAny _ _ (binaryOp1 "add" (.ref x) b) _ _ _
  unfold binaryOp1
  refine wpAny_bind (I.type.here (wpAny_bind (hb.here (wpAny_bind ((PySem.W.fills_K X hcd hm hs).here ?_)))))
  have ne : (Value.ref C == Value.type T) = false := rfl
  simp only [ne, Bool.false_eq_true, if_false]
  refine wpAny_bind (wpAny_of_eq (ft_bT hT) ?_)
  cases hfl : addFill T
  · simp only [Bool.and_false, Bool.true_and, Bool.false_eq_true, if_false, pure_bind, if_true, Bool.false_and]
    refine wpAny_bind (go1 fun v s' hv => ?_)
    exact wpAny_pure (wpAny_pure hv)
  · simp only [Bool.and_self, if_true]
    refine wpAny_bind (wpAny_of_eq (su_bT hT C) ?_)
    simp only [Bool.false_eq_true, if_false, pure_bind, Bool.not_false, Bool.and_self, if_true]
    refine wpAny_bind ((np_own X hs hr hy).here ?_)
    have hpy : numberSlotInPython (.type T) "add" = pure false := rfl
    simp only [if_true, hpy, pure_bind, Bool.not_false, l2]
    refine wpAny_bind (go1 fun v s' hv => ?_)
    exact wpAny_pure (wpAny_pure hv)
/-- value + instance -/
theorem addR_K (F : Fr h₀ L s.heap m) (X₀ : K.In h₀) (I : PySem.W.InstAt s.heap x ox C od) (hb : PySem.W.Looks (model prog w) s.heap (typeOf b) (.type T)) (hT : T ∈ bT) (hc : PySem.W.selfFirst K C = true) (hsub : PySem.W.subIn K (.ref C) (.type T) = some false)
    (hs : PySem.W.findIn K (.ref C) (PySem.dunder "add") = some (some (.ref f))) (hr : PySem.W.findIn K (.ref C) (PySem.dunderR "add") = some (some (.ref g))) (hf : PySem.W.isFn K (.ref g) = true)
    (dec : addFill T = true → ∀ {R : Option Value → Shared → Prop}, R none s → wpAny (model prog w) A (tryMethod b (PySem.dunder "add") (.ref x)) R E s)
    (h : wpAny (model prog w) A (call (.ref g) [.ref x, b]) (PySem.W.CmpBack Q) E s) : wpAny (model prog w) A (binaryOp .Add b (.ref x)) Q E s := by
  have X := X₀.keeps F.keep
  obtain ⟨cd, hcd, hm⟩ := PySem.W.any_some hc
  obtain ⟨rest, hm⟩ : ∃ rest, cd.mro = .ref C :: rest := by
    generalize cd.mro = l at hm
    match l, hm with
    | _ :: r, e => exact ⟨r, by cases (beq_iff_eq.mp e); rfl⟩
  have go1 : ∀ {R : Option Value → Shared → Prop}, (∀ v s', Q v s' → R (some v) s') → wpAny (model prog w) A (tryMethod (.ref x) (PySem.dunderR "add") b) R E s := fun {R} hR => by
    unfold tryMethod
    refine wpAny_bind (PySem.W.special_fn X I hr (beq_iff_eq.mp hf) (wpAny_mono h (fun v s' hv => ?_) fun _ _ e => e))
    cases v <;> first | exact False.elim hv | exact wpAny_pure (hR _ _ hv)
  unfold binaryOp
  refine wpAny_holding (wpAny_bind ?_)
  show wpAny _ _ (binaryOp1 "add" b (.ref x)) _ _ _
  unfold binaryOp1
  refine wpAny_bind (hb.here (wpAny_bind (I.type.here (wpAny_bind (wpAny_of_eq (ft_bT hT) ?_)))))
  have ne : (Value.type T == Value.ref C) = false := rfl
  simp only [ne, Bool.false_eq_true, if_false]
  refine wpAny_bind ((PySem.W.fills_K X hcd hm hs).here ?_)
  cases hfl : addFill T
  · simp only [Bool.false_and, Bool.true_and, Bool.false_eq_true, if_false, pure_bind, if_true, Bool.not_false]
    refine wpAny_bind (go1 fun v s' hv => ?_)
    exact wpAny_bind (wpAny_rule (wpAny_pure (wpAny_pure hv)))
  · simp only [Bool.and_self, if_true]
    refine wpAny_bind ((PySem.W.looks_subIn X hsub).here ?_)
    have hpy : numberSlotInPython (.type T) "add" = pure false := rfl
    simp only [Bool.false_eq_true, if_false, pure_bind, Bool.not_false, Bool.and_self, if_true, hpy]
    refine wpAny_bind (dec hfl ?_)
    refine wpAny_bind (go1 fun v s' hv => ?_)
    exact wpAny_bind (wpAny_rule (wpAny_pure (wpAny_pure hv)))
end
theorem int_add_no_inst (b : Int) (u : Tok) (l C dx : Addr) :
    Meets (Builtin.«int.__add__» ⟨[.int b u, .ref l], []⟩) (fun _ R s => s.heap.get? l = some (PySem.W.instObj C dx) ∧ R (.ok (.ret .notImplemented)) s) :=
  .of_wp fun prog w A R s h => by obtain ⟨hp, g, d, tk, os⟩ := s; obtain ⟨hl, h⟩ := h; wp_walk using wpAny_loadPart' hl, wpAny_load hl; exact ⟨_, rfl, h⟩
theorem bool_add_no_inst (b : Bool) (l C dx : Addr) :
    Meets (Builtin.«int.__add__» ⟨[.bool b, .ref l], []⟩) (fun _ R s => s.heap.get? l = some (PySem.W.instObj C dx) ∧ R (.ok (.ret .notImplemented)) s) :=
  .of_wp fun prog w A R s h => by obtain ⟨hp, g, d, tk, os⟩ := s; obtain ⟨hl, h⟩ := h; wp_walk using wpAny_loadPart' hl, wpAny_load hl; exact ⟨_, rfl, h⟩
/-- the class has its own reflected + or none -/
def raddB (K : PySem.W.Frag) (C : Addr) : Bool := match PySem.W.findIn K (.ref C) "__radd__" with
  | some none => true
  | some (some (.ref _)) => true
  | _ => false
theorem raddB_ok {K : PySem.W.Frag} {C : Addr} (h : raddB K C = true) : ∃ y, PySem.W.findIn K (.ref C) (PySem.dunderR "add") = some y ∧ (y = none ∨ ∃ g, y = some (.ref g)) := by
  unfold raddB at h
  split at h
  · rename_i e; exact ⟨_, e, .inl rfl⟩
  · rename_i g e; exact ⟨_, e, .inr ⟨g, rfl⟩⟩
  · cases h
/-- x + y, x an instance of C, y of the language's own -/
@[simp] def fAddL (C : String) (F : AF) : A2X := fun x y m P Fx => clsIs m x C ∧ (∃ s, s ∈ bT ∧ tyT m y = some s) ∧ F [x, y] m (fun t m3 => noC t ∧ P t m3) Fx
/-- x + y, y an instance of C, x of the language's own -/
@[simp] def fAddR (C : String) (F : AF) : A2X := fun x y m P Fx => clsIs m y C ∧ (∃ s, s ∈ bT ∧ tyT m x = some s) ∧ F [y, x] m (fun t m3 => noC t ∧ P t m3) Fx
section
variable {gd md : Bool} {c : Cl} {X : Cx} {k j n : Nat} {C : String} {F : AF}
theorem opA_addL (h : MetA gd md X.prog X.w X.K X.mg X.base c.cls k C "__add__" [] 1 F) (sf : PySem.W.selfFirst X.K (ga X.K C) = true) (hra : raddB X.K (ga X.K C) = true) (hno : ∀ C ∈ c.cls, bT.contains C = false) (hg : gd = true → X.A.guards = some []) (hr : Room j X.A) (hk : k ≤ j) (tk : Pas md X c.W) : OpA c X (binaryOp .Add) (fAddL C F) := by
  intro pins s σ H0 H G0 G m0 x y v u v' u' P Fx Q I mr st vx vy rx ry hf0 kk
  obtain ⟨hc, ⟨Tn, hT, ht⟩, p3⟩ := hf0
  obtain ⟨⟨C', fs⟩, e1, e2⟩ := Option.map_eq_some_iff.mp hc
  cases (show C' = C from e2)
  obtain ⟨f, fd, ps, ds, dvs, hm, hf, hlen, bd, d, vd⟩ := h.ex
  obtain ⟨a, dx, us, rfl, ea, ik, vf⟩ := rdI mr (.inl vx) e1
  obtain rfl : v' = Value.ref a := rx
  obtain ⟨mA, O, _⟩ := ins_get I.hok ea
  obtain ⟨od, J, _⟩ := O.look
  obtain ⟨mm, Fm⟩ := I.fr
  obtain ⟨tyx, _⟩ := ty_X (Γ := go X c.cls) hno mr (.inl vy) ht
  obtain ⟨PT, kx, hp, _⟩ := kit_of I ry tyx
  have lk := kx.ty (model X.prog X.w) s.heap I.kIn hp
  have tvT : tv X.K Tn = .type Tn := by unfold tv; rw [if_pos (List.contains_iff_mem.mpr hT)]
  rw [show (go X c.cls).K = X.K from rfl, tvT] at lk
  obtain ⟨yr, hry, hyy⟩ := raddB_ok hra
  have kk' : Cont (VR (go X c.cls)) (go X c.cls) c.W G0 H0 σ (fun t m3 => noC t ∧ P t m3) Fx (fun v H' => (∀ u s (R : Value → Shared → Prop), RelV v u → R u s → PySem.W.CmpBack R u s) ∧ Q v H') := ⟨fun t m' G' v H' ⟨p, p'⟩ s r vr => ⟨fun u s R ru q => noC_back p vr ru q, kk.ok t m' G' v H' p' s r vr⟩, kk.ex⟩
  have sp := call_sp (F := F) (n := ps.length) (vs := [.ref a, u] ++ dvs) (ts := [x, y]) (by rw [List.length_append, hlen, ← (vd G H).length]; rfl) kk' st mr (vrs_cons.mpr ⟨_, _, rfl, vx, vrs_cons.mpr ⟨_, _, rfl, vy, by cases vrs_nil.mp (vd G H); exact vrs_nil.mpr rfl⟩⟩) p3
  have cal := thn (runA (us := [.ref a, u']) (vs := [.ref a, u]) hf hg (hr.mono hk) tk bd d I (.cons rfl (.cons ry .nil)) sp) fun w s3 ⟨v', H', I', rv, hcb, q'⟩ => hcb w s3 (EP X pins σ Q) rv ⟨v', H', I', rv, q'⟩
  exact addL_K Fm I.ok.mod.kin J lk hT sf hm.at_ hm.fn hry hyy cal
theorem opA_addR (h : MetA gd md X.prog X.w X.K X.mg X.base c.cls k C "__radd__" [] 1 F) {fa : Addr} (ha : Meth X.K (ga X.K C) "__add__" fa) (sf : PySem.W.selfFirst X.K (ga X.K C) = true) (hs : ∀ s ∈ bT, PySem.W.subIn X.K (.ref (ga X.K C)) (.type s) = some false) (hno : ∀ C ∈ c.cls, bT.contains C = false) (hg : gd = true → X.A.guards = some []) (hr : Room j X.A) (hk : k ≤ j) (tk : Pas md X c.W) : OpA c X (binaryOp .Add) (fAddR C F) := by
  intro pins s σ H0 H G0 G m0 x y v u v' u' P Fx Q I mr st vx vy rx ry hf0 kk
  obtain ⟨hc, ⟨Tn, hT, ht⟩, p3⟩ := hf0
  obtain ⟨⟨C', fs⟩, e1, e2⟩ := Option.map_eq_some_iff.mp hc
  cases (show C' = C from e2)
  obtain ⟨f, fd, ps, ds, dvs, hm, hf, hlen, bd, d, vd⟩ := h.ex
  obtain ⟨a, dx, us, rfl, ea, ik, vf⟩ := rdI mr (.inl vy) e1
  obtain rfl : u' = Value.ref a := ry
  obtain ⟨mA, O, _⟩ := ins_get I.hok ea
  obtain ⟨od, J, _⟩ := O.look
  obtain ⟨mm, Fm⟩ := I.fr
  obtain ⟨tyx, _⟩ := ty_X (Γ := go X c.cls) hno mr (.inl vx) ht
  obtain ⟨PT, kx, hp, _⟩ := kit_of I rx tyx
  have lk := kx.ty (model X.prog X.w) s.heap I.kIn hp
  have tvT : tv X.K Tn = .type Tn := by unfold tv; rw [if_pos (List.contains_iff_mem.mpr hT)]
  rw [show (go X c.cls).K = X.K from rfl, tvT] at lk
  have kk' : Cont (VR (go X c.cls)) (go X c.cls) c.W G0 H0 σ (fun t m3 => noC t ∧ P t m3) Fx (fun v H' => (∀ u s (R : Value → Shared → Prop), RelV v u → R u s → PySem.W.CmpBack R u s) ∧ Q v H') := ⟨fun t m' G' v H' ⟨p, p'⟩ s r vr => ⟨fun u s R ru q => noC_back p vr ru q, kk.ok t m' G' v H' p' s r vr⟩, kk.ex⟩
  have sp := call_sp (F := F) (n := ps.length) (vs := [.ref a, v] ++ dvs) (ts := [y, x]) (by rw [List.length_append, hlen, ← (vd G H).length]; rfl) kk' st mr (vrs_cons.mpr ⟨_, _, rfl, vy, vrs_cons.mpr ⟨_, _, rfl, vx, by cases vrs_nil.mp (vd G H); exact vrs_nil.mpr rfl⟩⟩) p3
  have cal := thn (runA (us := [.ref a, v']) (vs := [.ref a, v]) hf hg (hr.mono hk) tk bd d I (.cons rfl (.cons rx .nil)) sp) fun w s3 ⟨v', H', I', rv, hcb, q'⟩ => hcb w s3 (EP X pins σ Q) rv ⟨v', H', I', rv, q'⟩
  refine addR_K Fm I.ok.mod.kin J lk hT sf (hs Tn hT) ha.at_ hm.at_ hm.fn (fun hfl {R} hR => ?_) cal
  cases x with
  | int i =>
    cases vr_int.mp vx
    obtain ⟨tk', rfl⟩ := (show ∃ tk, v' = Value.int i tk from rx)
    have ty := typeIs_int s i tk'
    have sl := PySem.F.slot_int_add
    unfold tryMethod
    refine wpAny_bind ?_
    with_reducible refine wpAny_callSpecial?_slot ty sl ?_
    refine call_meets sl ty PySem.F.entry_int_add (PySem.F.args_int_add_2 _ _) (int_add_no_inst i tk' a (ga X.K C) dx) ⟨J.at_, ?_⟩
    exact wpAny_pure hR
  | bl b =>
    cases vr_bl.mp vx
    obtain rfl : v' = Value.bool b := rx
    have ty : s.TypeIs (.bool b) "bool" := rfl
    have sl := PySem.F.slot_bool_add
    unfold tryMethod
    refine wpAny_bind ?_
    with_reducible refine wpAny_callSpecial?_slot ty sl ?_
    refine call_meets sl ty PySem.F.entry_int_add (PySem.F.args_int_add_2 _ _) (bool_add_no_inst b a (ga X.K C) dx) ⟨J.at_, ?_⟩
    exact wpAny_pure hR
  | obj q =>
    simp only [tyT] at ht
    split at ht
    · cases ht; exact absurd hfl (by decide)
    · cases ht; exact absurd hfl (by decide)
    · rename_i C2 fs2 e2'
      obtain ⟨b, dy, ws, ev, eb, ik2, _⟩ := rdI mr (.inl vx) (show asI m0 (.obj q) = some (C2, fs2) by simp [asI, e2'])
      have e3 := hno C2 ik2.mem
      cases ht
      rw [List.contains_iff_mem.mpr hT] at e3
      cases e3
    · cases ht
  | ins C2 fs2 =>
    obtain ⟨b, dy, ws, ev, eb, ik2, _⟩ := rdI mr (.inl vx) (show asI m0 (.ins C2 fs2) = some (C2, fs2) from rfl)
    have e3 := hno C2 ik2.mem
    cases ht
    rw [List.contains_iff_mem.mpr hT] at e3
    cases e3
  | _ => first | (cases ht; exact absurd hfl (by decide)) | cases ht
end
/-- C(x=..), __init__ without default values -/
theorem makK0 {gd md : Bool} {P : Program} {w : World} {K : PySem.W.Frag} {mg : Str → Option Value} {base : Heap} {cls : List String} {k : Nat} {f : Addr} {ps : List Str} {x qual : Str} {params : Arguments} {body : List Stmt} {scope : Scope} {C : String} {F : AF} (ks : List Str) (ix : List Nat) (h : ∃ fd, FunD K x qual params body scope [] [] f fd) (M : Mk K (ga K C) f) (g : mg (PySem.Str.ofString C) = some (.ref (ga K C))) (ik : InsK ⟨K, cls⟩ C [])
    (bd : ∀ (kV doc pm : Value) (an : Option Addr) (cdv ct : Value) (us ws : List Value), us.length = 1 → ws.length = ks.length → bindArgs (PySem.W.fnOf x qual params body scope .none kV doc pm an cdv ct) ⟨us, ks.zip ws⟩ = pure (ps.zip (pickI ix (us ++ ws)))) (hn : ps.length = ix.length) (hix : ∀ i ∈ ix, i < 1 + ks.length)
    (hf : ∀ fd, FunD K x qual params body scope [] [] f fd → Fa gd md P w K mg base cls k f fd ps F) : MakK gd md P w K mg base cls k C ks [] ix F := by
  obtain ⟨fd, D⟩ := h
  refine ⟨f, fd, ps, [], [], M, hf fd D, hn, fun i hi => by simpa using hix i hi, g, .nil, fun _ _ => vrs_nil.mpr rfl, ik, fun s us ws _ h1 h2 => ?_⟩
  obtain ⟨oc, od, dV, kV, doc, pm, an, cdv, ct, osl, rfl, lk, hcd, hD, hK⟩ := D.ex
  rcases hD with ⟨_, rfl⟩ | ⟨e, _⟩
  · rw [List.append_nil]
    exact .of_eq (bd kV doc pm an cdv ct us ws h1 h2)
  · exact absurd rfl e
end AM
set_option maxHeartbeats 4000000
namespace AM
open PySem PySem.Spec PyProof.Rows L2 Eb
/-! ## a, b = a list -/
@[simp] def gTL (n : Nat) (r : AGs) : AGt := fun t z m P F => match asL m t with | some ts => ts.length = n ∧ r ts z m P F | none => False
section
variable {c : Cl} {X : Cx} {es : List Expr} {gs : AGs} {pos : Pos}
theorem sg_lst {n kk : Nat} (hc : X.calm = true) (h : SGs c X es gs) (hn : (assignEach es X.env).length = n := by rfl) (hst : (assignEach es X.env).findIdx? (·.1) = none := by rfl) : SG c X (.Tuple es kk pos) (gTL n gs) :=
  pg_weak (pg_lst hc h hn hst) fun v σ H Q ⟨G, z, m, t, P, F, mr, sr, vr, h, k⟩ => by
    unfold gTL at h
    split at h
    · rename_i ts e
      obtain ⟨p, us, e1, e2, e3⟩ := rdL mr (.inl vr) e
      exact ⟨p, us, e1, e2, by rw [e3.length]; exact h.1, G, z, m, ts, P, F, mr, sr, e3, h.2, k⟩
    · exact h.elim
end
end AM
namespace AM
/-- the classes' ancestors -/
def anc : String → List String
  | "SettleError" => ["ValueError"]
  | "MissingError" => ["LookupError"]
  | "StateError" => ["RuntimeError"]
  | "LimitError" => ["ArithmeticError"]
  | "InvalidWord" => ["SettleError", "ValueError"]
  | "InvalidPattern" => ["SettleError", "ValueError"]
  | "InvalidName" => ["SettleError", "ValueError"]
  | "InvalidDistance" => ["SettleError", "ValueError"]
  | "InvalidCount" => ["SettleError", "ValueError"]
  | "InvalidPageSize" => ["SettleError", "ValueError"]
  | "InvalidSide" => ["SettleError", "ValueError"]
  | "InvalidRow" => ["SettleError", "ValueError"]
  | "InvalidBook" => ["SettleError", "ValueError"]
  | "InvalidPiece" => ["SettleError", "ValueError"]
  | "InvalidPieces" => ["SettleError", "ValueError"]
  | "InvalidPosition" => ["SettleError", "ValueError"]
  | "InvalidDocument" => ["SettleError", "ValueError"]
  | "InvalidGuess" => ["SettleError", "ValueError"]
  | "InvalidPage" => ["SettleError", "ValueError"]
  | "InvalidText" => ["SettleError", "ValueError"]
  | "InvalidClaim" => ["SettleError", "ValueError"]
  | "InvalidCommand" => ["SettleError", "ValueError"]
  | "UnknownMark" => ["MissingError", "LookupError"]
  | "UnknownName" => ["MissingError", "LookupError"]
  | "MarkTaken" => ["StateError", "RuntimeError"]
  | "NameTaken" => ["StateError", "RuntimeError"]
  | "Shrinks" => ["StateError", "RuntimeError"]
  | "Jumps" => ["StateError", "RuntimeError"]
  | "Grows" => ["StateError", "RuntimeError"]
  | "NotSmooth" => ["StateError", "RuntimeError"]
  | "NotRising" => ["StateError", "RuntimeError"]
  | "NotFalling" => ["StateError", "RuntimeError"]
  | "OtherFar" => ["StateError", "RuntimeError"]
  | "NothingToUndo" => ["StateError", "RuntimeError"]
  | "CommandFailed" => ["StateError", "RuntimeError"]
  | "TooMany" => ["LimitError", "ArithmeticError"]
  | "Text" => ["Piece"]
  | "Mark" => ["Piece", "Named"]
  | "Reference" => ["Piece", "Named"]
  | "Ref" => ["Reference", "Piece", "Named"]
  | "PageRef" => ["Reference", "Piece", "Named"]
  | "Break" => ["Piece"]
  | _ => []
end AM
set_option maxHeartbeats 4000000
namespace Tx
open PySem PySem.Spec PyProof.Rows L2 Eb AM
def top (i : Nat) : Stmt := PySem.Challenge.pw_everysettles_k11_words_and_patterns.main.body.getD i (.Pass ⟨0, 0, 0, 0⟩)
abbrev s_InvalidPattern_init : Stmt := inClass (top 3) 0
abbrev N_InvalidPattern_init : List Str := ["self", "value"]
theorem sc_InvalidPattern_init : FnScope N_InvalidPattern_init ["self", "value"] (defScope s_InvalidPattern_init) := ⟨rfl, rfl, rfl, by decide +kernel, rfl, by decide +kernel, by decide +kernel⟩
abbrev s_InvalidCount_init : Stmt := inClass (top 4) 0
abbrev N_InvalidCount_init : List Str := ["self", "value"]
theorem sc_InvalidCount_init : FnScope N_InvalidCount_init ["self", "value"] (defScope s_InvalidCount_init) := ⟨rfl, rfl, rfl, by decide +kernel, rfl, by decide +kernel, by decide +kernel⟩
abbrev s_TooMany_init : Stmt := inClass (top 5) 0
abbrev N_TooMany_init : List Str := ["self", "what", "limit"]
theorem sc_TooMany_init : FnScope N_TooMany_init ["self", "what", "limit"] (defScope s_TooMany_init) := ⟨rfl, rfl, rfl, by decide +kernel, rfl, by decide +kernel, by decide +kernel⟩
abbrev s_is_integer : Stmt := top 11
abbrev N_is_integer : List Str := ["value"]
theorem sc_is_integer : FnScope N_is_integer ["value"] (defScope s_is_integer) := ⟨rfl, rfl, rfl, by decide +kernel, rfl, by decide +kernel, by decide +kernel⟩
abbrev s_is_count : Stmt := top 12
abbrev N_is_count : List Str := ["value"]
theorem sc_is_count : FnScope N_is_count ["value"] (defScope s_is_count) := ⟨rfl, rfl, rfl, by decide +kernel, rfl, by decide +kernel, by decide +kernel⟩
abbrev s_is_character : Stmt := top 13
abbrev N_is_character : List Str := ["sign"]
theorem sc_is_character : FnScope N_is_character ["sign"] (defScope s_is_character) := ⟨rfl, rfl, rfl, by decide +kernel, rfl, by decide +kernel, by decide +kernel⟩
abbrev s_is_word : Stmt := top 14
abbrev N_is_word : List Str := ["value", "sign"]
theorem sc_is_word : FnScope N_is_word ["value"] (defScope s_is_word) := ⟨rfl, rfl, rfl, by decide +kernel, rfl, by decide +kernel, by decide +kernel⟩
abbrev s_is_pattern_text : Stmt := top 15
abbrev N_is_pattern_text : List Str := ["value", "others", "sign"]
theorem sc_is_pattern_text : FnScope N_is_pattern_text ["value"] (defScope s_is_pattern_text) := ⟨rfl, rfl, rfl, by decide +kernel, rfl, by decide +kernel, by decide +kernel⟩
abbrev s_Pattern_init : Stmt := inClass (top 16) 0
abbrev N_Pattern_init : List Str := ["self", "text", "place", "at", "sign"]
theorem sc_Pattern_init : FnScope N_Pattern_init ["self", "text"] (defScope s_Pattern_init) := ⟨rfl, rfl, rfl, by decide +kernel, rfl, by decide +kernel, by decide +kernel⟩
abbrev s_Pattern_filled : Stmt := inClass (top 16) 1
abbrev N_Pattern_filled : List Str := ["self", "number"]
theorem sc_Pattern_filled : FnScope N_Pattern_filled ["self", "number"] (defScope s_Pattern_filled) := ⟨rfl, rfl, rfl, by decide +kernel, rfl, by decide +kernel, by decide +kernel⟩
abbrev s_Pattern_width : Stmt := inClass (top 16) 2
abbrev N_Pattern_width : List Str := ["self", "number"]
theorem sc_Pattern_width : FnScope N_Pattern_width ["self", "number"] (defScope s_Pattern_width) := ⟨rfl, rfl, rfl, by decide +kernel, rfl, by decide +kernel, by decide +kernel⟩
abbrev s_Pattern_want_room : Stmt := inClass (top 16) 3
abbrev N_Pattern_want_room : List Str := ["self", "many"]
theorem sc_Pattern_want_room : FnScope N_Pattern_want_room ["self", "many"] (defScope s_Pattern_want_room) := ⟨rfl, rfl, rfl, by decide +kernel, rfl, by decide +kernel, by decide +kernel⟩
abbrev s_Pattern_add : Stmt := inClass (top 16) 4
abbrev N_Pattern_add : List Str := ["self", "other"]
theorem sc_Pattern_add : FnScope N_Pattern_add ["self", "other"] (defScope s_Pattern_add) := ⟨rfl, rfl, rfl, by decide +kernel, rfl, by decide +kernel, by decide +kernel⟩
abbrev s_Pattern_radd : Stmt := inClass (top 16) 5
abbrev N_Pattern_radd : List Str := ["self", "other"]
theorem sc_Pattern_radd : FnScope N_Pattern_radd ["self", "other"] (defScope s_Pattern_radd) := ⟨rfl, rfl, rfl, by decide +kernel, rfl, by decide +kernel, by decide +kernel⟩
abbrev s_Pattern_len : Stmt := inClass (top 16) 6
abbrev N_Pattern_len : List Str := ["self"]
theorem sc_Pattern_len : FnScope N_Pattern_len ["self"] (defScope s_Pattern_len) := ⟨rfl, rfl, rfl, by decide +kernel, rfl, by decide +kernel, by decide +kernel⟩
abbrev s_Pattern_str : Stmt := inClass (top 16) 7
abbrev N_Pattern_str : List Str := ["self"]
theorem sc_Pattern_str : FnScope N_Pattern_str ["self"] (defScope s_Pattern_str) := ⟨rfl, rfl, rfl, by decide +kernel, rfl, by decide +kernel, by decide +kernel⟩
abbrev s_Pattern_eq : Stmt := inClass (top 16) 9
abbrev N_Pattern_eq : List Str := ["self", "other"]
theorem sc_Pattern_eq : FnScope N_Pattern_eq ["self", "other"] (defScope s_Pattern_eq) := ⟨rfl, rfl, rfl, by decide +kernel, rfl, by decide +kernel, by decide +kernel⟩
abbrev s__law_rng : Stmt := top 18
abbrev N__law_rng : List Str := ["_law_script", "_law_k", "_law_cell"]
theorem sc__law_rng : FnScope N__law_rng ["_law_script", "_law_k"] (defScope s__law_rng) := ⟨rfl, rfl, rfl, by decide +kernel, rfl, by decide +kernel, by decide +kernel⟩
abbrev s__law_draw : Stmt := top 19
abbrev N__law_draw : List Str := ["_law_rng_here", "_law_sides", "_law_digit"]
theorem sc__law_draw : FnScope N__law_draw ["_law_rng_here", "_law_sides"] (defScope s__law_draw) := ⟨rfl, rfl, rfl, by decide +kernel, rfl, by decide +kernel, by decide +kernel⟩
abbrev s__law_choice : Stmt := top 20
abbrev N__law_choice : List Str := ["_law_rng_here", "_law_some"]
theorem sc__law_choice : FnScope N__law_choice ["_law_rng_here", "_law_some"] (defScope s__law_choice) := ⟨rfl, rfl, rfl, by decide +kernel, rfl, by decide +kernel, by decide +kernel⟩
abbrev s__law_word : Stmt := top 21
abbrev N__law_word : List Str := ["_law_rng_here", "_law_size", "_law_signs", "_law_turn"]
theorem sc__law_word : FnScope N__law_word ["_law_rng_here", "_law_size"] (defScope s__law_word) := ⟨rfl, rfl, rfl, by decide +kernel, rfl, by decide +kernel, by decide +kernel⟩
abbrev s__law_any_word : Stmt := top 22
abbrev N__law_any_word : List Str := ["_law_rng_here"]
theorem sc__law_any_word : FnScope N__law_any_word ["_law_rng_here"] (defScope s__law_any_word) := ⟨rfl, rfl, rfl, by decide +kernel, rfl, by decide +kernel, by decide +kernel⟩
abbrev s__law_pattern_text : Stmt := top 23
abbrev N__law_pattern_text : List Str := ["_law_rng_here", "_law_word_here", "_law_at"]
theorem sc__law_pattern_text : FnScope N__law_pattern_text ["_law_rng_here"] (defScope s__law_pattern_text) := ⟨rfl, rfl, rfl, by decide +kernel, rfl, by decide +kernel, by decide +kernel⟩
abbrev s__law_said : Stmt := top 24
abbrev N__law_said : List Str := ["_law_deed", "_law_told", "e"]
theorem sc__law_said : FnScope N__law_said ["_law_deed"] (defScope s__law_said) := ⟨rfl, rfl, rfl, by decide +kernel, rfl, by decide +kernel, by decide +kernel⟩
abbrev s__law_words_right : Stmt := top 25
abbrev N__law_words_right : List Str := ["_law_rng_here", "_law_word_here", "_law_at", "_law_sign", "_law_longer", "_law_some", "_law_thing"]
theorem sc__law_words_right : FnScope N__law_words_right ["_law_rng_here"] (defScope s__law_words_right) := ⟨rfl, rfl, rfl, by decide +kernel, rfl, by decide +kernel, by decide +kernel⟩
abbrev s__law_refused_right : Stmt := top 26
abbrev N__law_refused_right : List Str := ["_law_rng_here", "_law_spelt", "_law_bare", "_law_some", "_law_thing"]
theorem sc__law_refused_right : FnScope N__law_refused_right ["_law_rng_here", "_law_spelt"] (defScope s__law_refused_right) := ⟨rfl, rfl, rfl, by decide +kernel, rfl, by decide +kernel, by decide +kernel⟩
abbrev s__law_power : Stmt := top 27
abbrev N__law_power : List Str := ["_law_many", "_law_found", "_law_turn"]
theorem sc__law_power : FnScope N__law_power ["_law_many"] (defScope s__law_power) := ⟨rfl, rfl, rfl, by decide +kernel, rfl, by decide +kernel, by decide +kernel⟩
abbrev s__law_no_counts : Stmt := top 28
abbrev N__law_no_counts : List Str := []
theorem sc__law_no_counts : FnScope N__law_no_counts [] (defScope s__law_no_counts) := ⟨rfl, rfl, rfl, by decide +kernel, rfl, by decide +kernel, by decide +kernel⟩
abbrev s__law_filled_right : Stmt := top 29
abbrev N__law_filled_right : List Str := ["_law_rng_here", "_law_made", "_law_spelt", "_law_ahead", "_law_behind", "_law_power_here", "_law_amount", "_law_due", "_law_thing"]
theorem sc__law_filled_right : FnScope N__law_filled_right ["_law_rng_here", "_law_made", "_law_spelt"] (defScope s__law_filled_right) := ⟨rfl, rfl, rfl, by decide +kernel, rfl, by decide +kernel, by decide +kernel⟩
abbrev s__law_added_right : Stmt := top 30
abbrev N__law_added_right : List Str := ["_law_rng_here", "_law_made", "_law_spelt", "_law_room", "_law_many", "_law_later", "_law_early", "_law_due", "_law_thing"]
theorem sc__law_added_right : FnScope N__law_added_right ["_law_rng_here", "_law_made", "_law_spelt"] (defScope s__law_added_right) := ⟨rfl, rfl, rfl, by decide +kernel, rfl, by decide +kernel, by decide +kernel⟩
abbrev s__law_right : Stmt := top 31
abbrev N__law_right : List Str := ["_law_rng_here", "_law_spelt", "_law_made", "_law_again", "_law_others", "_law_other"]
theorem sc__law_right : FnScope N__law_right ["_law_rng_here"] (defScope s__law_right) := ⟨rfl, rfl, rfl, by decide +kernel, rfl, by decide +kernel, by decide +kernel⟩
abbrev s_law : Stmt := top 32
abbrev N_law : List Str := ["_law_script", "_law_k"]
theorem sc_law : FnScope N_law ["_law_script"] (defScope s_law) := ⟨rfl, rfl, rfl, by decide +kernel, rfl, by decide +kernel, by decide +kernel⟩
def cls : List String := ["Pattern"]
theorem clsNo : ∀ C ∈ cls, bT.contains C = false := by decide +kernel
structure TX (K : PySem.W.Frag) (mg : Str → Option Value) : Prop where
  d_InvalidPattern_init : ∃ fd, FunD K "__init__" "InvalidPattern.__init__" (defArgs s_InvalidPattern_init) (defBody s_InvalidPattern_init) (defScope s_InvalidPattern_init) ([].map (He.Dv.v K)) [] (He.ma K (He.ga K "InvalidPattern") "__init__") fd
  d_InvalidCount_init : ∃ fd, FunD K "__init__" "InvalidCount.__init__" (defArgs s_InvalidCount_init) (defBody s_InvalidCount_init) (defScope s_InvalidCount_init) ([].map (He.Dv.v K)) [] (He.ma K (He.ga K "InvalidCount") "__init__") fd
  d_TooMany_init : ∃ fd, FunD K "__init__" "TooMany.__init__" (defArgs s_TooMany_init) (defBody s_TooMany_init) (defScope s_TooMany_init) ([].map (He.Dv.v K)) [] (He.ma K (He.ga K "TooMany") "__init__") fd
  d_is_integer : ∃ fd, FunD K "is_integer" "is_integer" (defArgs s_is_integer) (defBody s_is_integer) (defScope s_is_integer) ([].map (He.Dv.v K)) [] (He.ga K "is_integer") fd
  d_is_count : ∃ fd, FunD K "is_count" "is_count" (defArgs s_is_count) (defBody s_is_count) (defScope s_is_count) ([].map (He.Dv.v K)) [] (He.ga K "is_count") fd
  d_is_character : ∃ fd, FunD K "is_character" "is_character" (defArgs s_is_character) (defBody s_is_character) (defScope s_is_character) ([].map (He.Dv.v K)) [] (He.ga K "is_character") fd
  d_is_word : ∃ fd, FunD K "is_word" "is_word" (defArgs s_is_word) (defBody s_is_word) (defScope s_is_word) ([].map (He.Dv.v K)) [] (He.ga K "is_word") fd
  d_is_pattern_text : ∃ fd, FunD K "is_pattern_text" "is_pattern_text" (defArgs s_is_pattern_text) (defBody s_is_pattern_text) (defScope s_is_pattern_text) ([].map (He.Dv.v K)) [] (He.ga K "is_pattern_text") fd
  d_Pattern_init : ∃ fd, FunD K "__init__" "Pattern.__init__" (defArgs s_Pattern_init) (defBody s_Pattern_init) (defScope s_Pattern_init) ([].map (He.Dv.v K)) [] (He.ma K (He.ga K "Pattern") "__init__") fd
  d_Pattern_filled : ∃ fd, FunD K "filled" "Pattern.filled" (defArgs s_Pattern_filled) (defBody s_Pattern_filled) (defScope s_Pattern_filled) ([].map (He.Dv.v K)) [] (He.ma K (He.ga K "Pattern") "filled") fd
  d_Pattern_width : ∃ fd, FunD K "width" "Pattern.width" (defArgs s_Pattern_width) (defBody s_Pattern_width) (defScope s_Pattern_width) ([].map (He.Dv.v K)) [] (He.ma K (He.ga K "Pattern") "width") fd
  d_Pattern_want_room : ∃ fd, FunD K "want_room" "Pattern.want_room" (defArgs s_Pattern_want_room) (defBody s_Pattern_want_room) (defScope s_Pattern_want_room) ([].map (He.Dv.v K)) [] (He.ma K (He.ga K "Pattern") "want_room") fd
  d_Pattern_add : ∃ fd, FunD K "__add__" "Pattern.__add__" (defArgs s_Pattern_add) (defBody s_Pattern_add) (defScope s_Pattern_add) ([].map (He.Dv.v K)) [] (He.ma K (He.ga K "Pattern") "__add__") fd
  d_Pattern_radd : ∃ fd, FunD K "__radd__" "Pattern.__radd__" (defArgs s_Pattern_radd) (defBody s_Pattern_radd) (defScope s_Pattern_radd) ([].map (He.Dv.v K)) [] (He.ma K (He.ga K "Pattern") "__radd__") fd
  d_Pattern_len : ∃ fd, FunD K "__len__" "Pattern.__len__" (defArgs s_Pattern_len) (defBody s_Pattern_len) (defScope s_Pattern_len) ([].map (He.Dv.v K)) [] (He.ma K (He.ga K "Pattern") "__len__") fd
  d_Pattern_str : ∃ fd, FunD K "__str__" "Pattern.__str__" (defArgs s_Pattern_str) (defBody s_Pattern_str) (defScope s_Pattern_str) ([].map (He.Dv.v K)) [] (He.ma K (He.ga K "Pattern") "__str__") fd
  d_Pattern_eq : ∃ fd, FunD K "__eq__" "Pattern.__eq__" (defArgs s_Pattern_eq) (defBody s_Pattern_eq) (defScope s_Pattern_eq) ([].map (He.Dv.v K)) [] (He.ma K (He.ga K "Pattern") "__eq__") fd
  d__law_rng : ∃ fd, FunD K "_law_rng" "_law_rng" (defArgs s__law_rng) (defBody s__law_rng) (defScope s__law_rng) ([].map (He.Dv.v K)) [] (He.ga K "_law_rng") fd
  d__law_draw : ∃ fd, FunD K "_law_draw" "_law_draw" (defArgs s__law_draw) (defBody s__law_draw) (defScope s__law_draw) ([].map (He.Dv.v K)) [] (He.ga K "_law_draw") fd
  d__law_choice : ∃ fd, FunD K "_law_choice" "_law_choice" (defArgs s__law_choice) (defBody s__law_choice) (defScope s__law_choice) ([].map (He.Dv.v K)) [] (He.ga K "_law_choice") fd
  d__law_word : ∃ fd, FunD K "_law_word" "_law_word" (defArgs s__law_word) (defBody s__law_word) (defScope s__law_word) ([].map (He.Dv.v K)) [] (He.ga K "_law_word") fd
  d__law_any_word : ∃ fd, FunD K "_law_any_word" "_law_any_word" (defArgs s__law_any_word) (defBody s__law_any_word) (defScope s__law_any_word) ([].map (He.Dv.v K)) [] (He.ga K "_law_any_word") fd
  d__law_pattern_text : ∃ fd, FunD K "_law_pattern_text" "_law_pattern_text" (defArgs s__law_pattern_text) (defBody s__law_pattern_text) (defScope s__law_pattern_text) ([].map (He.Dv.v K)) [] (He.ga K "_law_pattern_text") fd
  d__law_said : ∃ fd, FunD K "_law_said" "_law_said" (defArgs s__law_said) (defBody s__law_said) (defScope s__law_said) ([].map (He.Dv.v K)) [] (He.ga K "_law_said") fd
  d__law_words_right : ∃ fd, FunD K "_law_words_right" "_law_words_right" (defArgs s__law_words_right) (defBody s__law_words_right) (defScope s__law_words_right) ([].map (He.Dv.v K)) [] (He.ga K "_law_words_right") fd
  d__law_refused_right : ∃ fd, FunD K "_law_refused_right" "_law_refused_right" (defArgs s__law_refused_right) (defBody s__law_refused_right) (defScope s__law_refused_right) ([].map (He.Dv.v K)) [] (He.ga K "_law_refused_right") fd
  d__law_power : ∃ fd, FunD K "_law_power" "_law_power" (defArgs s__law_power) (defBody s__law_power) (defScope s__law_power) ([].map (He.Dv.v K)) [] (He.ga K "_law_power") fd
  d__law_no_counts : ∃ fd, FunD K "_law_no_counts" "_law_no_counts" (defArgs s__law_no_counts) (defBody s__law_no_counts) (defScope s__law_no_counts) ([].map (He.Dv.v K)) [] (He.ga K "_law_no_counts") fd
  d__law_filled_right : ∃ fd, FunD K "_law_filled_right" "_law_filled_right" (defArgs s__law_filled_right) (defBody s__law_filled_right) (defScope s__law_filled_right) ([].map (He.Dv.v K)) [] (He.ga K "_law_filled_right") fd
  d__law_added_right : ∃ fd, FunD K "_law_added_right" "_law_added_right" (defArgs s__law_added_right) (defBody s__law_added_right) (defScope s__law_added_right) ([].map (He.Dv.v K)) [] (He.ga K "_law_added_right") fd
  d__law_right : ∃ fd, FunD K "_law_right" "_law_right" (defArgs s__law_right) (defBody s__law_right) (defScope s__law_right) ([].map (He.Dv.v K)) [] (He.ga K "_law_right") fd
  d_law : ∃ fd, FunD K "law" "law" (defArgs s_law) (defBody s_law) (defScope s_law) ([].map (He.Dv.v K)) [] (He.ga K "law") fd
  g_is_integer : mg "is_integer" = some (.ref (He.ga K "is_integer"))
  g_is_count : mg "is_count" = some (.ref (He.ga K "is_count"))
  g_is_character : mg "is_character" = some (.ref (He.ga K "is_character"))
  g_is_word : mg "is_word" = some (.ref (He.ga K "is_word"))
  g_is_pattern_text : mg "is_pattern_text" = some (.ref (He.ga K "is_pattern_text"))
  g__law_rng : mg "_law_rng" = some (.ref (He.ga K "_law_rng"))
  g__law_draw : mg "_law_draw" = some (.ref (He.ga K "_law_draw"))
  g__law_choice : mg "_law_choice" = some (.ref (He.ga K "_law_choice"))
  g__law_word : mg "_law_word" = some (.ref (He.ga K "_law_word"))
  g__law_any_word : mg "_law_any_word" = some (.ref (He.ga K "_law_any_word"))
  g__law_pattern_text : mg "_law_pattern_text" = some (.ref (He.ga K "_law_pattern_text"))
  g__law_said : mg "_law_said" = some (.ref (He.ga K "_law_said"))
  g__law_words_right : mg "_law_words_right" = some (.ref (He.ga K "_law_words_right"))
  g__law_refused_right : mg "_law_refused_right" = some (.ref (He.ga K "_law_refused_right"))
  g__law_power : mg "_law_power" = some (.ref (He.ga K "_law_power"))
  g__law_no_counts : mg "_law_no_counts" = some (.ref (He.ga K "_law_no_counts"))
  g__law_filled_right : mg "_law_filled_right" = some (.ref (He.ga K "_law_filled_right"))
  g__law_added_right : mg "_law_added_right" = some (.ref (He.ga K "_law_added_right"))
  g__law_right : mg "_law_right" = some (.ref (He.ga K "_law_right"))
  g_law : mg "law" = some (.ref (He.ga K "law"))
  g_Pattern : mg "Pattern" = some (.ref (He.ga K "Pattern"))
  c_Pattern : Cls K (He.ga K "Pattern")
  mk_Pattern : Mk K (He.ga K "Pattern") (He.ma K (He.ga K "Pattern") "__init__")
  ty_Pattern : insB "Pattern" K = true
  sf_Pattern : PySem.W.selfFirst K (He.ga K "Pattern") = true
  ra_Pattern : raddB K (He.ga K "Pattern") = true
  nf_Pattern : nfB anc cls "Pattern" K = true
  sb_Pattern : ∀ s ∈ bT, PySem.W.subIn K (.ref (ga K "Pattern")) (.type s) = some false
  nn_Pattern : PySem.W.findIn K (.ref (He.ga K "Pattern")) "__ne__" = some (some (.builtin "object.__ne__"))
  mo_Pattern : PySem.W.mroIn K (He.ga K "Pattern") (.type "object") = some true
  na_Pattern_own_ahead : NoAttr K (He.ga K "Pattern") "own_ahead"
  na_Pattern_own_behind : NoAttr K (He.ga K "Pattern") "own_behind"
  na_Pattern_own_text : NoAttr K (He.ga K "Pattern") "own_text"
  m_Pattern_filled : Meth K (He.ga K "Pattern") "filled" (He.ma K (He.ga K "Pattern") "filled")
  m_Pattern_width : Meth K (He.ga K "Pattern") "width" (He.ma K (He.ga K "Pattern") "width")
  m_Pattern_want_room : Meth K (He.ga K "Pattern") "want_room" (He.ma K (He.ga K "Pattern") "want_room")
  m_Pattern_add : Meth K (He.ga K "Pattern") "__add__" (He.ma K (He.ga K "Pattern") "__add__")
  m_Pattern_radd : Meth K (He.ga K "Pattern") "__radd__" (He.ma K (He.ga K "Pattern") "__radd__")
  m_Pattern_len : Meth K (He.ga K "Pattern") "__len__" (He.ma K (He.ga K "Pattern") "__len__")
  m_Pattern_str : Meth K (He.ga K "Pattern") "__str__" (He.ma K (He.ga K "Pattern") "__str__")
  m_Pattern_eq : Meth K (He.ga K "Pattern") "__eq__" (He.ma K (He.ga K "Pattern") "__eq__")
  g_InvalidCount : mg "InvalidCount" = some (.ref (He.ga K "InvalidCount"))
  x_InvalidCount : Oex K mg "InvalidCount" "value"
  g_InvalidPattern : mg "InvalidPattern" = some (.ref (He.ga K "InvalidPattern"))
  x_InvalidPattern : Oex K mg "InvalidPattern" "value"
  g_TooMany : mg "TooMany" = some (.ref (He.ga K "TooMany"))
  x_TooMany : Og2 K mg "TooMany" "what" "limit"
  em : ∀ x ∈ (["InvalidCount", "InvalidPattern", "TooMany"] : List String), ∀ y ∈ (["InvalidCount", "InvalidPattern", "TooMany"] : List String), PySem.W.exmOne K (.ref (ga K x)) (.ref (ga K y)) = some (subC anc x y)
  sm : ∃ o, K.lookup sysModules = some o
  ki_Pattern : kisB anc cls ["Pattern"] K = true
  ki_bool : kisB anc cls ["bool"] K = true
  ki_int : kisB anc cls ["int"] K = true
  ki_str : kisB anc cls ["str"] K = true
  k_MOST_CHARACTERS : ∃ t, mg "MOST_CHARACTERS" = some (.int 20 t)
  k_BLANK : ∃ t, mg "BLANK" = some (.str " " t)
  k_HASH : ∃ t, mg "HASH" = some (.str "#" t)
  g_NOT_IN_WORDS : mg "NOT_IN_WORDS" = some (.ref (He.ga K "NOT_IN_WORDS"))
  k_NOT_IN_WORDS : ∀ H : Hp, SqT K H (He.ga K "NOT_IN_WORDS") [.int 34, .int 35, .int 37, .int 92]
  b_abs : mg "abs" = none
  b_all : mg "all" = none
  b_any : mg "any" = none
  b_bool : mg "bool" = none
  b_divmod : mg "divmod" = none
  b_enumerate : mg "enumerate" = none
  b_int : mg "int" = none
  b_isinstance : mg "isinstance" = none
  b_len : mg "len" = none
  b_max : mg "max" = none
  b_min : mg "min" = none
  b_ord : mg "ord" = none
  b_range : mg "range" = none
  b_repr : mg "repr" = none
  b_str : mg "str" = none
def looks1 : List (PySem.W.Frag → Bool) := [
  fun K => (He.Fa.glo "is_integer").ok K,
  fun K => (He.Fa.glo "is_count").ok K,
  fun K => (He.Fa.glo "is_character").ok K,
  fun K => (He.Fa.glo "is_word").ok K,
  fun K => (He.Fa.glo "is_pattern_text").ok K,
  fun K => (He.Fa.glo "_law_rng").ok K,
  fun K => (He.Fa.glo "_law_draw").ok K,
  fun K => (He.Fa.glo "_law_choice").ok K,
  fun K => (He.Fa.glo "_law_word").ok K,
  fun K => (He.Fa.glo "_law_any_word").ok K,
  fun K => (He.Fa.glo "_law_pattern_text").ok K,
  fun K => (He.Fa.glo "_law_said").ok K,
  fun K => (He.Fa.glo "_law_words_right").ok K,
  fun K => (He.Fa.glo "_law_refused_right").ok K,
  fun K => (He.Fa.glo "_law_power").ok K,
  fun K => (He.Fa.glo "_law_no_counts").ok K,
  fun K => (He.Fa.glo "_law_filled_right").ok K,
  fun K => (He.Fa.glo "_law_added_right").ok K,
  fun K => (He.Fa.glo "_law_right").ok K,
  fun K => (He.Fa.glo "law").ok K,
  fun K => (He.Fa.glo "Pattern").ok K,
  fun K => (He.Fa.cls "Pattern").ok K,
  fun K => (He.Fa.mkr "Pattern").ok K,
  insB "Pattern",
  fun K => PySem.W.selfFirst K (He.ga K "Pattern"),
  fun K => raddB K (He.ga K "Pattern"),
  nfB anc cls "Pattern",
  sbB "Pattern",
  fun K => He.eqO (PySem.W.findIn K (.ref (He.ga K "Pattern")) "__ne__") (some (some (.builtin "object.__ne__"))),
  fun K => decide (PySem.W.mroIn K (He.ga K "Pattern") (.type "object") = some true),
  fun K => (He.Fa.noat "Pattern" "own_ahead").ok K,
  fun K => (He.Fa.noat "Pattern" "own_behind").ok K,
  fun K => (He.Fa.noat "Pattern" "own_text").ok K,
  fun K => (He.Fa.meth "Pattern" "filled").ok K,
  fun K => (He.Fa.meth "Pattern" "width").ok K,
  fun K => (He.Fa.meth "Pattern" "want_room").ok K,
  fun K => (He.Fa.meth "Pattern" "__add__").ok K]
def looks2 : List (PySem.W.Frag → Bool) := [
  fun K => (He.Fa.meth "Pattern" "__radd__").ok K,
  fun K => (He.Fa.meth "Pattern" "__len__").ok K,
  fun K => (He.Fa.meth "Pattern" "__str__").ok K,
  fun K => (He.Fa.meth "Pattern" "__eq__").ok K,
  fun K => (He.Fa.glo "InvalidCount").ok K,
  fun K => (He.Fa.glo "InvalidCount").ok K && oexL "InvalidCount" "value" K,
  fun K => (He.Fa.glo "InvalidPattern").ok K,
  fun K => (He.Fa.glo "InvalidPattern").ok K && oexL "InvalidPattern" "value" K,
  fun K => (He.Fa.glo "TooMany").ok K,
  fun K => (He.Fa.glo "TooMany").ok K && og2L "ArithmeticError" "ArithmeticError.__new__" "TooMany" "what" "limit" K,
  emB anc ["InvalidCount", "InvalidPattern", "TooMany"] ["InvalidCount", "InvalidPattern", "TooMany"],
  smB,
  kisB anc cls ["Pattern"],
  kisB anc cls ["bool"],
  kisB anc cls ["int"],
  kisB anc cls ["str"],
  fun K => (He.Fa.int "MOST_CHARACTERS" 20).ok K,
  fun K => (He.Fa.str "BLANK" " ").ok K,
  fun K => (He.Fa.str "HASH" "#").ok K,
  fun K => (He.Fa.glo "NOT_IN_WORDS").ok K,
  fun K => He.tupB K "NOT_IN_WORDS" [.int 34, .int 35, .int 37, .int 92],
  fun K => (He.Fa.free "abs").ok K,
  fun K => (He.Fa.free "all").ok K,
  fun K => (He.Fa.free "any").ok K,
  fun K => (He.Fa.free "bool").ok K,
  fun K => (He.Fa.free "divmod").ok K,
  fun K => (He.Fa.free "enumerate").ok K,
  fun K => (He.Fa.free "int").ok K,
  fun K => (He.Fa.free "isinstance").ok K,
  fun K => (He.Fa.free "len").ok K,
  fun K => (He.Fa.free "max").ok K,
  fun K => (He.Fa.free "min").ok K,
  fun K => (He.Fa.free "ord").ok K,
  fun K => (He.Fa.free "range").ok K,
  fun K => (He.Fa.free "repr").ok K,
  fun K => (He.Fa.free "str").ok K]
def looks : List (PySem.W.Frag → Bool) := looks1 ++ looks2
def defns1 : List DefP := [
  ⟨fun K => He.ma K (He.ga K "InvalidPattern") "__init__", "__init__", "InvalidPattern.__init__", defArgs s_InvalidPattern_init, defBody s_InvalidPattern_init, defScope s_InvalidPattern_init, []⟩,
  ⟨fun K => He.ma K (He.ga K "InvalidCount") "__init__", "__init__", "InvalidCount.__init__", defArgs s_InvalidCount_init, defBody s_InvalidCount_init, defScope s_InvalidCount_init, []⟩,
  ⟨fun K => He.ma K (He.ga K "TooMany") "__init__", "__init__", "TooMany.__init__", defArgs s_TooMany_init, defBody s_TooMany_init, defScope s_TooMany_init, []⟩,
  ⟨fun K => He.ga K "is_integer", "is_integer", "is_integer", defArgs s_is_integer, defBody s_is_integer, defScope s_is_integer, []⟩,
  ⟨fun K => He.ga K "is_count", "is_count", "is_count", defArgs s_is_count, defBody s_is_count, defScope s_is_count, []⟩,
  ⟨fun K => He.ga K "is_character", "is_character", "is_character", defArgs s_is_character, defBody s_is_character, defScope s_is_character, []⟩,
  ⟨fun K => He.ga K "is_word", "is_word", "is_word", defArgs s_is_word, defBody s_is_word, defScope s_is_word, []⟩,
  ⟨fun K => He.ga K "is_pattern_text", "is_pattern_text", "is_pattern_text", defArgs s_is_pattern_text, defBody s_is_pattern_text, defScope s_is_pattern_text, []⟩,
  ⟨fun K => He.ma K (He.ga K "Pattern") "__init__", "__init__", "Pattern.__init__", defArgs s_Pattern_init, defBody s_Pattern_init, defScope s_Pattern_init, []⟩,
  ⟨fun K => He.ma K (He.ga K "Pattern") "filled", "filled", "Pattern.filled", defArgs s_Pattern_filled, defBody s_Pattern_filled, defScope s_Pattern_filled, []⟩,
  ⟨fun K => He.ma K (He.ga K "Pattern") "width", "width", "Pattern.width", defArgs s_Pattern_width, defBody s_Pattern_width, defScope s_Pattern_width, []⟩,
  ⟨fun K => He.ma K (He.ga K "Pattern") "want_room", "want_room", "Pattern.want_room", defArgs s_Pattern_want_room, defBody s_Pattern_want_room, defScope s_Pattern_want_room, []⟩,
  ⟨fun K => He.ma K (He.ga K "Pattern") "__add__", "__add__", "Pattern.__add__", defArgs s_Pattern_add, defBody s_Pattern_add, defScope s_Pattern_add, []⟩,
  ⟨fun K => He.ma K (He.ga K "Pattern") "__radd__", "__radd__", "Pattern.__radd__", defArgs s_Pattern_radd, defBody s_Pattern_radd, defScope s_Pattern_radd, []⟩,
  ⟨fun K => He.ma K (He.ga K "Pattern") "__len__", "__len__", "Pattern.__len__", defArgs s_Pattern_len, defBody s_Pattern_len, defScope s_Pattern_len, []⟩,
  ⟨fun K => He.ma K (He.ga K "Pattern") "__str__", "__str__", "Pattern.__str__", defArgs s_Pattern_str, defBody s_Pattern_str, defScope s_Pattern_str, []⟩]
def defns2 : List DefP := [
  ⟨fun K => He.ma K (He.ga K "Pattern") "__eq__", "__eq__", "Pattern.__eq__", defArgs s_Pattern_eq, defBody s_Pattern_eq, defScope s_Pattern_eq, []⟩,
  ⟨fun K => He.ga K "_law_rng", "_law_rng", "_law_rng", defArgs s__law_rng, defBody s__law_rng, defScope s__law_rng, []⟩,
  ⟨fun K => He.ga K "_law_draw", "_law_draw", "_law_draw", defArgs s__law_draw, defBody s__law_draw, defScope s__law_draw, []⟩,
  ⟨fun K => He.ga K "_law_choice", "_law_choice", "_law_choice", defArgs s__law_choice, defBody s__law_choice, defScope s__law_choice, []⟩,
  ⟨fun K => He.ga K "_law_word", "_law_word", "_law_word", defArgs s__law_word, defBody s__law_word, defScope s__law_word, []⟩,
  ⟨fun K => He.ga K "_law_any_word", "_law_any_word", "_law_any_word", defArgs s__law_any_word, defBody s__law_any_word, defScope s__law_any_word, []⟩,
  ⟨fun K => He.ga K "_law_pattern_text", "_law_pattern_text", "_law_pattern_text", defArgs s__law_pattern_text, defBody s__law_pattern_text, defScope s__law_pattern_text, []⟩,
  ⟨fun K => He.ga K "_law_said", "_law_said", "_law_said", defArgs s__law_said, defBody s__law_said, defScope s__law_said, []⟩,
  ⟨fun K => He.ga K "_law_words_right", "_law_words_right", "_law_words_right", defArgs s__law_words_right, defBody s__law_words_right, defScope s__law_words_right, []⟩,
  ⟨fun K => He.ga K "_law_refused_right", "_law_refused_right", "_law_refused_right", defArgs s__law_refused_right, defBody s__law_refused_right, defScope s__law_refused_right, []⟩,
  ⟨fun K => He.ga K "_law_power", "_law_power", "_law_power", defArgs s__law_power, defBody s__law_power, defScope s__law_power, []⟩,
  ⟨fun K => He.ga K "_law_no_counts", "_law_no_counts", "_law_no_counts", defArgs s__law_no_counts, defBody s__law_no_counts, defScope s__law_no_counts, []⟩,
  ⟨fun K => He.ga K "_law_filled_right", "_law_filled_right", "_law_filled_right", defArgs s__law_filled_right, defBody s__law_filled_right, defScope s__law_filled_right, []⟩,
  ⟨fun K => He.ga K "_law_added_right", "_law_added_right", "_law_added_right", defArgs s__law_added_right, defBody s__law_added_right, defScope s__law_added_right, []⟩,
  ⟨fun K => He.ga K "_law_right", "_law_right", "_law_right", defArgs s__law_right, defBody s__law_right, defScope s__law_right, []⟩,
  ⟨fun K => He.ga K "law", "law", "law", defArgs s_law, defBody s_law, defScope s_law, []⟩]
def defns : List DefP := defns1 ++ defns2
theorem tx_of {K : PySem.W.Frag} {h : Heap} {mg : Str → Option Value} (X : K.In h) (G : h.Ns mainGlobals mg) (s : SaysY looks defns K) : TX K mg where
  d_InvalidPattern_init := s.defd 0
  d_InvalidCount_init := s.defd 1
  d_TooMany_init := s.defd 2
  d_is_integer := s.defd 3
  d_is_count := s.defd 4
  d_is_character := s.defd 5
  d_is_word := s.defd 6
  d_is_pattern_text := s.defd 7
  d_Pattern_init := s.defd 8
  d_Pattern_filled := s.defd 9
  d_Pattern_width := s.defd 10
  d_Pattern_want_room := s.defd 11
  d_Pattern_add := s.defd 12
  d_Pattern_radd := s.defd 13
  d_Pattern_len := s.defd 14
  d_Pattern_str := s.defd 15
  d_Pattern_eq := s.defd 16
  d__law_rng := s.defd 17
  d__law_draw := s.defd 18
  d__law_choice := s.defd 19
  d__law_word := s.defd 20
  d__law_any_word := s.defd 21
  d__law_pattern_text := s.defd 22
  d__law_said := s.defd 23
  d__law_words_right := s.defd 24
  d__law_refused_right := s.defd 25
  d__law_power := s.defd 26
  d__law_no_counts := s.defd 27
  d__law_filled_right := s.defd 28
  d__law_added_right := s.defd 29
  d__law_right := s.defd 30
  d_law := s.defd 31
  g_is_integer := have c := s.look 0; He.glo_ok X G c
  g_is_count := have c := s.look 1; He.glo_ok X G c
  g_is_character := have c := s.look 2; He.glo_ok X G c
  g_is_word := have c := s.look 3; He.glo_ok X G c
  g_is_pattern_text := have c := s.look 4; He.glo_ok X G c
  g__law_rng := have c := s.look 5; He.glo_ok X G c
  g__law_draw := have c := s.look 6; He.glo_ok X G c
  g__law_choice := have c := s.look 7; He.glo_ok X G c
  g__law_word := have c := s.look 8; He.glo_ok X G c
  g__law_any_word := have c := s.look 9; He.glo_ok X G c
  g__law_pattern_text := have c := s.look 10; He.glo_ok X G c
  g__law_said := have c := s.look 11; He.glo_ok X G c
  g__law_words_right := have c := s.look 12; He.glo_ok X G c
  g__law_refused_right := have c := s.look 13; He.glo_ok X G c
  g__law_power := have c := s.look 14; He.glo_ok X G c
  g__law_no_counts := have c := s.look 15; He.glo_ok X G c
  g__law_filled_right := have c := s.look 16; He.glo_ok X G c
  g__law_added_right := have c := s.look 17; He.glo_ok X G c
  g__law_right := have c := s.look 18; He.glo_ok X G c
  g_law := have c := s.look 19; He.glo_ok X G c
  g_Pattern := have c := s.look 20; He.glo_ok X G c
  c_Pattern := have c := s.look 21; He.cls_ok c
  mk_Pattern := have c := s.look 22; He.mkr_ok c
  ty_Pattern := have c := s.look 23; c
  sf_Pattern := have c := s.look 24; c
  ra_Pattern := have c := s.look 25; c
  nf_Pattern := have c := s.look 26; c
  sb_Pattern := have c := s.look 27; sbB_ok c
  nn_Pattern := have c := s.look 28; He.eqO_ok c
  mo_Pattern := have c := s.look 29; of_decide_eq_true c
  na_Pattern_own_ahead := have c := s.look 30; He.noat_ok c
  na_Pattern_own_behind := have c := s.look 31; He.noat_ok c
  na_Pattern_own_text := have c := s.look 32; He.noat_ok c
  m_Pattern_filled := have c := s.look 33; He.meth_ok c
  m_Pattern_width := have c := s.look 34; He.meth_ok c
  m_Pattern_want_room := have c := s.look 35; He.meth_ok c
  m_Pattern_add := have c := s.look 36; He.meth_ok c
  m_Pattern_radd := have c := s.look 37; He.meth_ok c
  m_Pattern_len := have c := s.look 38; He.meth_ok c
  m_Pattern_str := have c := s.look 39; He.meth_ok c
  m_Pattern_eq := have c := s.look 40; He.meth_ok c
  g_InvalidCount := have c := s.look 41; He.glo_ok X G c
  x_InvalidCount := have c := s.look 42; oexL_ok (He.glo_ok X G (He.ba c).1) (He.ba c).2
  g_InvalidPattern := have c := s.look 43; He.glo_ok X G c
  x_InvalidPattern := have c := s.look 44; oexL_ok (He.glo_ok X G (He.ba c).1) (He.ba c).2
  g_TooMany := have c := s.look 45; He.glo_ok X G c
  x_TooMany := have c := s.look 46; og2L_ok F.excBase_ArithmeticError F.store_ArithmeticError (He.glo_ok X G (He.ba c).1) (He.ba c).2
  em := have c := s.look 47; emB_ok c
  sm := have c := s.look 48; smB_ok c
  ki_Pattern := have c := s.look 49; c
  ki_bool := have c := s.look 50; c
  ki_int := have c := s.look 51; c
  ki_str := have c := s.look 52; c
  k_MOST_CHARACTERS := have c := s.look 53; He.int_ok X G c
  k_BLANK := have c := s.look 54; He.str_ok X G c
  k_HASH := have c := s.look 55; He.str_ok X G c
  g_NOT_IN_WORDS := have c := s.look 56; He.glo_ok X G c
  k_NOT_IN_WORDS := have c := s.look 57; fun H => He.tupB_ok c H
  b_abs := have c := s.look 58; He.free_ok X G c
  b_all := have c := s.look 59; He.free_ok X G c
  b_any := have c := s.look 60; He.free_ok X G c
  b_bool := have c := s.look 61; He.free_ok X G c
  b_divmod := have c := s.look 62; He.free_ok X G c
  b_enumerate := have c := s.look 63; He.free_ok X G c
  b_int := have c := s.look 64; He.free_ok X G c
  b_isinstance := have c := s.look 65; He.free_ok X G c
  b_len := have c := s.look 66; He.free_ok X G c
  b_max := have c := s.look 67; He.free_ok X G c
  b_min := have c := s.look 68; He.free_ok X G c
  b_ord := have c := s.look 69; He.free_ok X G c
  b_range := have c := s.look 70; He.free_ok X G c
  b_repr := have c := s.look 71; He.free_ok X G c
  b_str := have c := s.look 72; He.free_ok X G c
theorem ik_Pattern {K : PySem.W.Frag} {mg : Str → Option Value} (T : TX K mg) : InsK ⟨K, cls⟩ "Pattern" [] := ⟨(show "Pattern" ∈ cls by decide +kernel), T.c_Pattern, T.ty_Pattern, fun p h => (List.not_mem_nil h).elim⟩
def makers : List Str := ["_law_refused_right", "_law_filled_right", "_law_added_right"]
structure TY (K : PySem.W.Frag) (mg : Str → Option Value) (base : Heap) : Prop extends TX K mg where
  tab : ∀ p ∈ mkrs makers K, LamX.TabB base mg p.1 p.2
end Tx
set_option maxHeartbeats 0
namespace Hd
open PySem PySem.Spec PyProof.Rows L2 Eb AM
abbrev R : PySem.W.OpenRow := PySem.W.OpenLaw.row PySem.Challenge.rw_everysettles_k11_words_and_patterns
abbrev hk : PySem.W.Hook := hookZT 5 Tx.makers Tx.looks Tx.defns
def ob (s : PySem.W.SharedT) : He.AlD := obsZT 5 Tx.makers Tx.looks Tx.defns (HandSHeadRun.getT s)
theorem ob_eq (s : PySem.W.SharedT) : ob s = hk.obs s.abs := obsZT_eq (HandSHeadRun.getT_eq s)
def loose : List Str := (["SettleError", "LimitError", "InvalidPattern", "InvalidCount", "TooMany", "MOST_CHARACTERS", "BLANK", "HASH", "NOT_IN_WORDS", "is_integer", "is_count", "is_character", "is_word", "is_pattern_text", "Pattern", "_law_rng", "_law_draw", "_law_choice", "_law_word", "_law_any_word", "_law_pattern_text", "_law_said", "_law_words_right", "_law_refused_right", "_law_power", "_law_no_counts", "_law_filled_right", "_law_added_right", "_law_right"] : List Str)
theorem run1 (w : World) : HandSHeadRun.RunEq R (PySem.W.view R.prog [32]) (hookZT 5 Tx.makers Tx.looks1 Tx.defns1) (fun s => obsZT 5 Tx.makers Tx.looks1 Tx.defns1 (HandSHeadRun.getT s)) 20000 loose w := by
  intro os
  kernel_rfl
theorem run2 (w : World) : HandSHeadRun.RunEq R (PySem.W.view R.prog [32]) (hookZT 5 Tx.makers Tx.looks2 Tx.defns2) (fun s => obsZT 5 Tx.makers Tx.looks2 Tx.defns2 (HandSHeadRun.getT s)) 20000 loose w := by
  intro os
  kernel_rfl
theorem run (w : World) : HandSHeadRun.RunEq R (PySem.W.view R.prog [32]) hk ob 20000 loose w := (run_combT (run1 w) (run2 w))
end Hd
set_option maxHeartbeats 4000000
namespace AM
open PySem PySem.Spec PyProof.Rows L2 Eb
def Tx_exs : List String := ["InvalidCount", "InvalidPattern", "TooMany"]
noncomputable def B_is_integer : AS := (sRet (aAnd (aIsi anc ["int"] (aVar 0)) (aNot (aIsi anc ["bool"] (aVar 0)))))
theorem W_is_integer : ∃ f : AF, f = fB 1 B_is_integer := ⟨_, rfl⟩
noncomputable def F_is_integer : AF := Classical.choose W_is_integer
theorem F_is_integer_eq : F_is_integer = fB 1 B_is_integer := Classical.choose_spec W_is_integer
noncomputable def B_is_count : AS := (sRet (aAnd (aCall F_is_integer [] (aCons (aVar 0) aNil)) (a2 geT (aVar 0) (aC (.int 0)))))
theorem W_is_count : ∃ f : AF, f = fB 1 B_is_count := ⟨_, rfl⟩
noncomputable def F_is_count : AF := Classical.choose W_is_count
theorem F_is_count_eq : F_is_count = fB 1 B_is_count := Classical.choose_spec W_is_count
noncomputable def B_is_character : AS := (sRet (aAnd (aChain leT leT (aC (.int 32)) (aL ordA (aCons (aVar 0) aNil)) (aC (.int 126))) (a2 ninA (aL ordA (aCons (aVar 0) aNil)) (aC (.tup [.int 34, .int 35, .int 37, .int 92])))))
theorem W_is_character : ∃ f : AF, f = fB 1 B_is_character := ⟨_, rfl⟩
noncomputable def F_is_character : AF := Classical.choose W_is_character
theorem F_is_character_eq : F_is_character = fB 1 B_is_character := Classical.choose_spec W_is_character
noncomputable def B_is_word : AS := (sSeq (sIf (aOrT (aNotT (aTru (aIsi anc ["str"] (aVar 0)))) (aTest (a2 gtT (aL lenA (aCons (aVar 0) aNil)) (aC (.int 20)))))
  (sRet (aC (.bl false)))
  sNil)
  (sRet (aL allA (aCons (aLc (iA (aVar 0)) (cN 1) [1] aYes (aCall F_is_character [] (aCons (aVar 1) aNil))) aNil))))
theorem W_is_word : ∃ f : AF, f = fB 2 B_is_word := ⟨_, rfl⟩
noncomputable def F_is_word : AF := Classical.choose W_is_word
theorem F_is_word_eq : F_is_word = fB 2 B_is_word := Classical.choose_spec W_is_word
noncomputable def B_is_pattern_text : AS := (sSeq (sIf (aOrT (aNotT (aTru (aIsi anc ["str"] (aVar 0)))) (aTest (a2 gtT (aL lenA (aCons (aVar 0) aNil)) (aC (.int 20)))))
  (sRet (aC (.bl false)))
  sNil)
  (sSeq (sSet 1 (aLc (iA (aVar 0)) (cN 2) [2] (aTest (a2 neA (aVar 2) (aC (.str (q "#"))))) (aVar 2)))
  (sRet (aAnd (a2 eqA (aL lenA (aCons (aVar 1) aNil)) (a2 subT (aL lenA (aCons (aVar 0) aNil)) (aC (.int 1)))) (aL allA (aCons (aLc (iA (aVar 1)) (cN 2) [2] aYes (aCall F_is_character [] (aCons (aVar 2) aNil))) aNil))))))
theorem W_is_pattern_text : ∃ f : AF, f = fB 3 B_is_pattern_text := ⟨_, rfl⟩
noncomputable def F_is_pattern_text : AF := Classical.choose W_is_pattern_text
theorem F_is_pattern_text_eq : F_is_pattern_text = fB 3 B_is_pattern_text := Classical.choose_spec W_is_pattern_text
noncomputable def B_Pattern_init : AS := (sSeq (sIf (nfT (aNotT (aTru (aCall F_is_pattern_text [] (aCons (aVar 1) aNil)))))
  (sRaise "InvalidPattern" "value" (aVar 1))
  sNil)
  (sSeq (sFldS ["Pattern"] "own_text" (aVar 0) (aVar 1))
  (sSeq (sSet 2 (a2 ixA (aLc (iES (aCons (aVar 1) aNil)) (cT [3, 4]) [3, 4] (aTest (a2 eqA (aVar 4) (aC (.str (q "#"))))) (aVar 3)) (aC (.int 0))))
  (sAsg (aTup (aCons (aSl (aVar 1) oNone (oSome (aVar 2))) (aCons (aSl (aVar 1) (oSome (a2 addT (aVar 2) (aC (.int 1)))) oNone) aNil))) (gT 2 (gsCons (gF ["Pattern"] "own_ahead" (aVar 0)) (gsCons (gF ["Pattern"] "own_behind" (aVar 0)) gsNil)))))))
theorem W_Pattern_init : ∃ f : AF, f = fB 5 B_Pattern_init := ⟨_, rfl⟩
noncomputable def F_Pattern_init : AF := Classical.choose W_Pattern_init
theorem F_Pattern_init_eq : F_Pattern_init = fB 5 B_Pattern_init := Classical.choose_spec W_Pattern_init
noncomputable def B_Pattern_filled : AS := (sSeq (sIf (nfT (aNotT (aTru (aCall F_is_count [] (aCons (aVar 1) aNil)))))
  (sRaise "InvalidCount" "value" (aVar 1))
  sNil)
  (sRet (aBMt "str" joinA (aC (.str (q ""))) (aCons (aLst (aCons (aFld "own_ahead" (aVar 0)) (aCons (aL strA (aCons (aVar 1) aNil)) (aCons (aFld "own_behind" (aVar 0)) aNil)))) aNil))))
theorem W_Pattern_filled : ∃ f : AF, f = fB 2 B_Pattern_filled := ⟨_, rfl⟩
noncomputable def F_Pattern_filled : AF := Classical.choose W_Pattern_filled
theorem F_Pattern_filled_eq : F_Pattern_filled = fB 2 B_Pattern_filled := Classical.choose_spec W_Pattern_filled
noncomputable def B_Pattern_width : AS := (sRet (aL lenA (aCons (aMeth "Pattern" F_Pattern_filled [] (aVar 0) (aCons (aVar 1) aNil)) aNil)))
theorem W_Pattern_width : ∃ f : AF, f = fB 2 B_Pattern_width := ⟨_, rfl⟩
noncomputable def F_Pattern_width : AF := Classical.choose W_Pattern_width
theorem F_Pattern_width_eq : F_Pattern_width = fB 2 B_Pattern_width := Classical.choose_spec W_Pattern_width
noncomputable def B_Pattern_want_room : AS := (sSeq (sIf (nfT (aNotT (aTru (aCall F_is_count [] (aCons (aVar 1) aNil)))))
  (sRaise "InvalidCount" "value" (aVar 1))
  sNil)
  (sIf (aTest (a2 gtT (a2 addT (aL lenA (aCons (aFld "own_text" (aVar 0)) aNil)) (aL intTA (aCons (aVar 1) aNil))) (aC (.int 20))))
  (sRaise2 "TooMany" "what" "limit" (aCons (aC (.str (q "characters"))) (aCons (aC (.int 20)) aNil)))
  sNil))
theorem W_Pattern_want_room : ∃ f : AF, f = fB 2 B_Pattern_want_room := ⟨_, rfl⟩
noncomputable def F_Pattern_want_room : AF := Classical.choose W_Pattern_want_room
theorem F_Pattern_want_room_eq : F_Pattern_want_room = fB 2 B_Pattern_want_room := Classical.choose_spec W_Pattern_want_room
noncomputable def B_Pattern_add : AS := (sSeq (sDrop (aMeth "Pattern" F_Pattern_want_room [] (aVar 0) (aCons (aVar 1) aNil)))
  (sRet (aMakeF "Pattern" F_Pattern_init [] (aCons (a2 addT (aFld "own_text" (aVar 0)) (a2 mulT (aC (.str (q " "))) (aL intTA (aCons (aVar 1) aNil)))) aNil))))
theorem W_Pattern_add : ∃ f : AF, f = fB 2 B_Pattern_add := ⟨_, rfl⟩
noncomputable def F_Pattern_add : AF := Classical.choose W_Pattern_add
theorem F_Pattern_add_eq : F_Pattern_add = fB 2 B_Pattern_add := Classical.choose_spec W_Pattern_add
noncomputable def B_Pattern_radd : AS := (sSeq (sDrop (aMeth "Pattern" F_Pattern_want_room [] (aVar 0) (aCons (aVar 1) aNil)))
  (sRet (aMakeF "Pattern" F_Pattern_init [] (aCons (a2 addT (a2 mulT (aC (.str (q " "))) (aL intTA (aCons (aVar 1) aNil))) (aFld "own_text" (aVar 0))) aNil))))
theorem W_Pattern_radd : ∃ f : AF, f = fB 2 B_Pattern_radd := ⟨_, rfl⟩
noncomputable def F_Pattern_radd : AF := Classical.choose W_Pattern_radd
theorem F_Pattern_radd_eq : F_Pattern_radd = fB 2 B_Pattern_radd := Classical.choose_spec W_Pattern_radd
noncomputable def B_Pattern_len : AS := (sRet (aL lenA (aCons (a2 addT (aFld "own_ahead" (aVar 0)) (aFld "own_behind" (aVar 0))) aNil)))
theorem W_Pattern_len : ∃ f : AF, f = fB 1 B_Pattern_len := ⟨_, rfl⟩
noncomputable def F_Pattern_len : AF := Classical.choose W_Pattern_len
theorem F_Pattern_len_eq : F_Pattern_len = fB 1 B_Pattern_len := Classical.choose_spec W_Pattern_len
noncomputable def B_Pattern_str : AS := (sRet (aL strA (aCons (aFld "own_text" (aVar 0)) aNil)))
theorem W_Pattern_str : ∃ f : AF, f = fB 1 B_Pattern_str := ⟨_, rfl⟩
noncomputable def F_Pattern_str : AF := Classical.choose W_Pattern_str
theorem F_Pattern_str_eq : F_Pattern_str = fB 1 B_Pattern_str := Classical.choose_spec W_Pattern_str
noncomputable def B_Pattern_eq : AS := (sRet (aAnd (aIsi anc ["Pattern"] (aVar 1)) (a2 eqA (aFld "own_text" (aVar 0)) (aFld "own_text" (aVar 1)))))
theorem W_Pattern_eq : ∃ f : AF, f = fB 2 B_Pattern_eq := ⟨_, rfl⟩
noncomputable def F_Pattern_eq : AF := Classical.choose W_Pattern_eq
theorem F_Pattern_eq_eq : F_Pattern_eq = fB 2 B_Pattern_eq := Classical.choose_spec W_Pattern_eq
noncomputable def B__law_rng : AS := (sSeq (sSet 2 (aIf (aTest (a2 ltT (aVar 1) (aL lenA (aCons (aVar 0) aNil)))) (a2 ixA (aVar 0) (aVar 1)) (a2 addT (a2 mulT (aC (.int 17)) (aVar 1)) (aC (.int 9)))))
  (sRet (aCell (aLst (aCons (aL max2A (aCons (aC (.int 0)) (aCons (a2 subT (aL absA (aCons (aVar 2) aNil)) (a2 powT (aC (.int 10)) (aC (.int 18)))) aNil))) (aCons (a2 addT (a2 modT (aL intTA (aCons (a2 addT (a2 addT (a2 mulT (a2 modT (aL intTA (aCons (aL absA (aCons (aVar 2) aNil)) aNil)) (aC (.int 2147483549))) (aC (.int 48271))) (a2 mulT (aC (.int 7907)) (aVar 1))) (aC (.int 37))) aNil)) (aC (.int 2147483629))) (aC (.int 1))) aNil))))))
noncomputable def Fr__law_rng : AF := fB 3 B__law_rng
theorem W__law_rng : ∃ f : AF, f = potMake := ⟨_, rfl⟩
noncomputable def F__law_rng : AF := Classical.choose W__law_rng
theorem F__law_rng_eq : F__law_rng = potMake := Classical.choose_spec W__law_rng
noncomputable def B__law_draw : AS := (sSeq (sIf (aTest (a2 gtT (a2 ixA (aVar 0) (aC (.int 0))) (aC (.int 0))))
  (sSeq (sAsg (aL divmodA (aCons (a2 ixA (aVar 0) (aC (.int 0))) (aCons (aVar 1) aNil))) (gT 2 (gsCons (gS setL (aVar 0) (aC (.int 0))) (gsCons (gN 2) gsNil))))
  (sRet (aVar 2)))
  sNil)
  (sSeq (sAsg (a2 modT (aL intTA (aCons (a2 addT (a2 mulT (a2 ixA (aVar 0) (aC (.int 1))) (aC (.int 39373))) (aC (.int 9967))) aNil)) (aC (.int 2147483629))) (gS setL (aVar 0) (aC (.int 1))))
  (sRet (a2 modT (aL intTA (aCons (a2 fdivT (a2 modT (aL intTA (aCons (a2 mulT (a2 ixA (aVar 0) (aC (.int 1))) (a2 ixA (aVar 0) (aC (.int 1)))) aNil)) (aC (.int 2147483563))) (aC (.int 13))) aNil)) (aVar 1)))))
noncomputable def Fr__law_draw : AF := fB 3 B__law_draw
theorem W__law_draw : ∃ f : AF, f = potDrawB := ⟨_, rfl⟩
noncomputable def F__law_draw : AF := Classical.choose W__law_draw
theorem F__law_draw_eq : F__law_draw = potDrawB := Classical.choose_spec W__law_draw
noncomputable def B__law_choice : AS := (sRet (a2 ixA (aVar 1) (aCall F__law_draw [] (aCons (aVar 0) (aCons (aL lenA (aCons (aVar 1) aNil)) aNil)))))
theorem W__law_choice : ∃ f : AF, f = fB 2 B__law_choice := ⟨_, rfl⟩
noncomputable def F__law_choice : AF := Classical.choose W__law_choice
theorem F__law_choice_eq : F__law_choice = fB 2 B__law_choice := Classical.choose_spec W__law_choice
noncomputable def B__law_word : AS := (sSeq (sSet 2 (aC (.str (q " ab9 !$&'()*+,-./0123456789:;<=>?@ABCDEFGHIJKLMNOPQRSTUVWXYZ[]^_`abcdefghijklmnopqrstuvwxyz{|}~"))))
  (sRet (aBMt "str" joinA (aC (.str (q ""))) (aCons (aLc (iR1 (aCons (aVar 1) aNil)) (cN 3) [3] aYes (aCall F__law_choice [] (aCons (aVar 0) (aCons (aVar 2) aNil)))) aNil))))
theorem W__law_word : ∃ f : AF, f = fB 4 B__law_word := ⟨_, rfl⟩
noncomputable def F__law_word : AF := Classical.choose W__law_word
theorem F__law_word_eq : F__law_word = fB 4 B__law_word := Classical.choose_spec W__law_word
noncomputable def B__law_any_word : AS := (sRet (aCall F__law_word [] (aCons (aVar 0) (aCons (aCall F__law_choice [] (aCons (aVar 0) (aCons (aLst (aCons (aC (.int 0)) (aCons (aC (.int 1)) (aCons (aC (.int 2)) (aCons (aC (.int 3)) (aCons (aC (.int 4)) (aCons (aC (.int 5)) (aCons (aC (.int 7)) (aCons (aC (.int 10)) (aCons (aC (.int 19)) (aCons (aC (.int 20)) aNil))))))))))) aNil))) aNil))))
theorem W__law_any_word : ∃ f : AF, f = fB 1 B__law_any_word := ⟨_, rfl⟩
noncomputable def F__law_any_word : AF := Classical.choose W__law_any_word
theorem F__law_any_word_eq : F__law_any_word = fB 1 B__law_any_word := Classical.choose_spec W__law_any_word
noncomputable def B__law_pattern_text : AS := (sSeq (sSet 1 (aCall F__law_word [] (aCons (aVar 0) (aCons (aCall F__law_choice [] (aCons (aVar 0) (aCons (aLst (aCons (aC (.int 0)) (aCons (aC (.int 0)) (aCons (aC (.int 1)) (aCons (aC (.int 2)) (aCons (aC (.int 5)) (aCons (aC (.int 13)) (aCons (aC (.int 18)) (aCons (aC (.int 19)) aNil))))))))) aNil))) aNil))))
  (sSeq (sSet 2 (aCall F__law_draw [] (aCons (aVar 0) (aCons (a2 addT (aL lenA (aCons (aVar 1) aNil)) (aC (.int 1))) aNil))))
  (sRet (a2 addT (a2 addT (aSl (aVar 1) oNone (oSome (aVar 2))) (aC (.str (q "#")))) (aSl (aVar 1) (oSome (aVar 2)) oNone)))))
theorem W__law_pattern_text : ∃ f : AF, f = fB 3 B__law_pattern_text := ⟨_, rfl⟩
noncomputable def F__law_pattern_text : AF := Classical.choose W__law_pattern_text
theorem F__law_pattern_text_eq : F__law_pattern_text = fB 3 B__law_pattern_text := Classical.choose_spec W__law_pattern_text
noncomputable def B__law_said (n : Nat) (R : KR) (θ : Th) : AS := (sSeq (sSet 1 (aLst (aCons (aC (.str (q "told"))) aNil)))
  (sSeq (sTry anc Tx_exs 2
  (sDrop (aThk n R θ))
  (("InvalidPattern", fun a dd => (sSet 1 (aLst (aCons (aC (.str (q "pattern"))) (aCons (aXf a dd "InvalidPattern" "value" (aVar 2)) aNil))))) :: (("InvalidCount", fun a dd => (sSet 1 (aLst (aCons (aC (.str (q "count"))) (aCons (aXf a dd "InvalidCount" "value" (aVar 2)) aNil))))) :: (("TooMany", fun a dd => (sSet 1 (aLst (aCons (aC (.str (q "many"))) (aCons (aXf a dd "TooMany" "what" (aVar 2)) (aCons (aXf a dd "TooMany" "limit" (aVar 2)) aNil)))))) :: []))))
  (sRet (aL repMA (aCons (aVar 1) aNil)))))
theorem W__law_said : ∃ f : Th → Mem → PX → Prop, f = fBS 3 B__law_said := ⟨_, rfl⟩
noncomputable def F__law_said : Th → Mem → PX → Prop := Classical.choose W__law_said
theorem F__law_said_eq : F__law_said = fBS 3 B__law_said := Classical.choose_spec W__law_said
noncomputable def B__law_words_right : AS := (sSeq (sSet 1 (aCall F__law_any_word [] (aCons (aVar 0) aNil)))
  (sSeq (sIf (aOrT (aTest (a2 isnT (aCall F_is_word [] (aCons (aVar 1) aNil)) (aC (.bl true)))) (aTest (a2 isnT (aCallK F_is_word [0] aNil (aCons (aVar 1) aNil)) (aC (.bl true)))))
  (sRet (aC (.bl false)))
  sNil)
  (sSeq (sSet 2 (aCall F__law_draw [] (aCons (aVar 0) (aCons (a2 addT (aL lenA (aCons (aVar 1) aNil)) (aC (.int 1))) aNil))))
  (sSeq (sFor (iA (aLst (aCons (aC (.str (q "#"))) (aCons (aC (.str (q "\""))) (aCons (aC (.str (q "\\"))) aNil))))) (gN 3)
  (sIf (aTest (a2 isnT (aCall F_is_word [] (aCons (a2 addT (a2 addT (aSl (aVar 1) oNone (oSome (aVar 2))) (aVar 3)) (aSl (aVar 1) (oSome (aVar 2)) oNone)) aNil)) (aC (.bl false))))
  (sRet (aC (.bl false)))
  sNil))
  (sSeq (sSet 4 (aCall F__law_word [] (aCons (aVar 0) (aCons (a2 addT (aC (.int 21)) (aCall F__law_draw [] (aCons (aVar 0) (aCons (aC (.int 2)) aNil)))) aNil))))
  (sSeq (sSet 5 (aLst (aCons (aVar 4) (aCons (aC .non) (aCons (aC (.int 0)) (aCons (aC (.int 7)) (aCons (aC (.bl true)) (aCons (aLst aNil) (aCons (aLst (aCons (aVar 1) aNil)) (aCons (aTup (aCons (aVar 1) aNil)) (aCons aDict0 (aCons (aMakeF "Pattern" F_Pattern_init [] (aCons (aC (.str (q "#"))) aNil)) (aCons (aBMt "str" splitA (aVar 1) (aCons (aC (.str (q " "))) aNil)) aNil)))))))))))))
  (sRet (a2 eqA (aL repMA (aCons (aLc (iA (aVar 5)) (cN 6) [6] aYes (aCall F_is_word [] (aCons (aVar 6) aNil))) aNil)) (aL repMA (aCons (a2 mulT (aLst (aCons (aC (.bl false)) aNil)) (aL lenA (aCons (aVar 5) aNil))) aNil))))))))))
theorem W__law_words_right : ∃ f : AF, f = fB 7 B__law_words_right := ⟨_, rfl⟩
noncomputable def F__law_words_right : AF := Classical.choose W__law_words_right
theorem F__law_words_right_eq : F__law_words_right = fB 7 B__law_words_right := Classical.choose_spec W__law_words_right
noncomputable def B__law_refused_right : AS := (sSeq (sSet 2 (aBMt "str" joinA (aC (.str (q ""))) (aCons (aBMt "str" splitA (aVar 1) (aCons (aC (.str (q "#"))) aNil)) aNil)))
  (sSeq (sSet 3 (aLst (aCons (aC .non) (aCons (aC (.int 5)) (aCons (aC (.bl true)) (aCons (aLst aNil) (aCons (aLst (aCons (aVar 1) aNil)) (aCons (aTup (aCons (aVar 1) aNil)) (aCons aDict0 (aCons (aC (.str (q ""))) (aCons (aVar 2) (aCons (a2 addT (aVar 1) (aC (.str (q "#")))) (aCons (aC (.str (q "##"))) (aCons (a2 addT (aC (.str (q "#"))) (aVar 1)) aNil))))))))))))))
  (sSeq (sSet 3 (a2 addT (aVar 3) (aLst (aCons (a2 addT (aVar 1) (aC (.str (q "\"")))) (aCons (a2 addT (aC (.str (q "\\"))) (aVar 1)) aNil)))))
  (sSeq (sSet 3 (a2 addT (aVar 3) (aLst (aCons (a2 addT (aVar 1) (a2 mulT (aC (.str (q "b"))) (a2 subT (aC (.int 21)) (aL lenA (aCons (aVar 1) aNil))))) (aCons (a2 addT (aVar 1) (aC (.str (q "\n")))) (aCons (a2 addT (aC (.str (q "\n"))) (aVar 1)) aNil))))))
  (sSeq (sFor (iA (aVar 3)) (gN 4)
  (sSeq (sIf (aTest (a2 neA (aSaid 0 "_law_refused_right" (ql "_law_refused_right") F__law_said (aMakeF "Pattern" F_Pattern_init [] (aCons (aVar 4) aNil))) (aL repMA (aCons (aLst (aCons (aC (.str (q "pattern"))) (aCons (aVar 4) aNil))) aNil))))
  (sRet (aC (.bl false)))
  sNil)
  (sIf (aTest (a2 neA (aSaid 0 "_law_refused_right" (ql "_law_refused_right") F__law_said (aMakeK "Pattern" F_Pattern_init [] [0, 1] (aCons (aVar 4) aNil))) (aL repMA (aCons (aLst (aCons (aC (.str (q "pattern"))) (aCons (aVar 4) aNil))) aNil))))
  (sRet (aC (.bl false)))
  sNil)))
  (sRet (aC (.bl true))))))))
theorem W__law_refused_right : ∃ f : AF, f = fB 5 B__law_refused_right := ⟨_, rfl⟩
noncomputable def F__law_refused_right : AF := Classical.choose W__law_refused_right
theorem F__law_refused_right_eq : F__law_refused_right = fB 5 B__law_refused_right := Classical.choose_spec W__law_refused_right
noncomputable def B__law_power : AS := (sSeq (sSet 1 (aC (.int 1)))
  (sSeq (sFor (iR1 (aCons (aVar 0) aNil)) (gN 2)
  (sSet 1 (a2 mulT (aC (.int 10)) (aVar 1))))
  (sRet (aVar 1))))
theorem W__law_power : ∃ f : AF, f = fB 3 B__law_power := ⟨_, rfl⟩
noncomputable def F__law_power : AF := Classical.choose W__law_power
theorem F__law_power_eq : F__law_power = fB 3 B__law_power := Classical.choose_spec W__law_power
noncomputable def B__law_no_counts : AS := (sRet (aLst (aCons (a1 negT (aC (.int 1))) (aCons (aC (.bl true)) (aCons (aC (.bl false)) (aCons (aC .non) (aCons (aC (.str (q "3"))) (aCons (aC (.str (q ""))) (aCons (aLst (aCons (aC (.int 3)) aNil)) (aCons (aTup aNil) (aCons aDict0 (aCons (a1 negT (a2 powT (aC (.int 10)) (aC (.int 30)))) aNil))))))))))))
theorem W__law_no_counts : ∃ f : AF, f = fB 0 B__law_no_counts := ⟨_, rfl⟩
noncomputable def F__law_no_counts : AF := Classical.choose W__law_no_counts
theorem F__law_no_counts_eq : F__law_no_counts = fB 0 B__law_no_counts := Classical.choose_spec W__law_no_counts
noncomputable def B__law_filled_right : AS := (sSeq (sAsg (aBMt "str" splitA (aVar 2) (aCons (aC (.str (q "#"))) aNil)) (gTL 2 (gsCons (gN 3) (gsCons (gN 4) gsNil))))
  (sSeq (sSet 5 (aCall F__law_power [] (aCons (aCall F__law_draw [] (aCons (aVar 0) (aCons (aC (.int 91)) aNil))) aNil)))
  (sSeq (sFor (iA (aLst (aCons (aC (.int 0)) (aCons (aC (.int 1)) (aCons (aC (.int 9)) (aCons (aC (.int 10)) (aCons (aC (.int 99)) (aCons (aC (.int 100)) (aCons (aVar 5) (aCons (a2 subT (aVar 5) (aC (.int 1))) (aCons (a2 addT (a2 mulT (aCall F__law_draw [] (aCons (aVar 0) (aCons (a2 powT (aC (.int 10)) (aC (.int 9))) aNil))) (aVar 5)) (aC (.int 7))) aNil))))))))))) (gN 6)
  (sSeq (sSet 7 (a2 addT (a2 addT (aVar 3) (aL strA (aCons (aVar 6) aNil))) (aVar 4)))
  (sSeq (sIf (aTest (a2 neA (aL repMA (aCons (aLst (aCons (aMeth "Pattern" F_Pattern_filled [] (aVar 1) (aCons (aVar 6) aNil)) (aCons (aMethK "Pattern" F_Pattern_filled [0, 1] (aVar 1) (aCons (aVar 6) aNil)) aNil))) aNil)) (aL repMA (aCons (aLst (aCons (aVar 7) (aCons (aVar 7) aNil))) aNil))))
  (sRet (aC (.bl false)))
  sNil)
  (sIf (aTest (a2 neA (aL repMA (aCons (aLst (aCons (aMeth "Pattern" F_Pattern_width [] (aVar 1) (aCons (aVar 6) aNil)) (aCons (aMethK "Pattern" F_Pattern_width [0, 1] (aVar 1) (aCons (aVar 6) aNil)) aNil))) aNil)) (aL repMA (aCons (a2 mulT (aLst (aCons (aL lenA (aCons (aVar 7) aNil)) aNil)) (aC (.int 2))) aNil))))
  (sRet (aC (.bl false)))
  sNil))))
  (sSeq (sFor (iA (aCall F__law_no_counts [] aNil)) (gN 8)
  (sSeq (sSet 7 (aL repMA (aCons (aLst (aCons (aC (.str (q "count"))) (aCons (aVar 8) aNil))) aNil)))
  (sSeq (sIf (aTest (a2 neA (aSaid 1 "_law_filled_right" (ql "_law_filled_right") F__law_said (aMeth "Pattern" F_Pattern_filled [] (aVar 1) (aCons (aVar 8) aNil))) (aVar 7)))
  (sRet (aC (.bl false)))
  sNil)
  (sIf (aTest (a2 neA (aSaid 1 "_law_filled_right" (ql "_law_filled_right") F__law_said (aMeth "Pattern" F_Pattern_width [] (aVar 1) (aCons (aVar 8) aNil))) (aVar 7)))
  (sRet (aC (.bl false)))
  sNil))))
  (sRet (aC (.bl true)))))))
theorem W__law_filled_right : ∃ f : AF, f = fB 9 B__law_filled_right := ⟨_, rfl⟩
noncomputable def F__law_filled_right : AF := Classical.choose W__law_filled_right
theorem F__law_filled_right_eq : F__law_filled_right = fB 9 B__law_filled_right := Classical.choose_spec W__law_filled_right
noncomputable def B__law_added_right : AS := (sSeq (sSet 3 (a2 subT (aC (.int 20)) (aL lenA (aCons (aVar 2) aNil))))
  (sSeq (sFor (iA (aLst (aCons (aC (.int 0)) (aCons (aVar 3) (aCons (aCall F__law_draw [] (aCons (aVar 0) (aCons (a2 addT (aVar 3) (aC (.int 1))) aNil))) aNil))))) (gN 4)
  (sSeq (sPar 5 6 (aCons (a2x (fAddL "Pattern" F_Pattern_add) (aVar 1) (aVar 4)) (aCons (a2x (fAddR "Pattern" F_Pattern_radd) (aVar 4) (aVar 1)) aNil)))
  (sSeq (sIf (aOrT (aTest (a2 neA (a1x (fStr "Pattern" F_Pattern_str) (aVar 5)) (a2 addT (aVar 2) (a2 mulT (aC (.str (q " "))) (aVar 4))))) (aTest (a2 neA (a1x (fStr "Pattern" F_Pattern_str) (aVar 6)) (a2 addT (a2 mulT (aC (.str (q " "))) (aVar 4)) (aVar 2)))))
  (sRet (aC (.bl false)))
  sNil)
  (sSeq (sIf (aOrT (aTest (a2 neA (a1x (fLen "Pattern" F_Pattern_len) (aVar 5)) (a2 addT (a1x (fLen "Pattern" F_Pattern_len) (aVar 1)) (aVar 4)))) (aTest (a2x (fNeG anc "Pattern" F_Pattern_eq) (aVar 5) (aMakeF "Pattern" F_Pattern_init [] (aCons (a2 addT (aVar 2) (a2 mulT (aC (.str (q " "))) (aVar 4))) aNil)))))
  (sRet (aC (.bl false)))
  sNil)
  (sIf (aTest (a2 neA (a2x (fEqG anc [("Pattern", F_Pattern_eq)]) (aVar 5) (aVar 1)) (a2 eqA (aVar 4) (aC (.int 0)))))
  (sRet (aC (.bl false)))
  sNil)))))
  (sSeq (sFor (iA (aLst (aCons (a2 addT (aVar 3) (aC (.int 1))) (aCons (a2 addT (aVar 3) (aC (.int 2))) (aCons (a2 powT (aC (.int 10)) (aC (.int 30))) aNil))))) (gN 4)
  (sSeq (sSet 7 (aL repMA (aCons (aLst (aCons (aC (.str (q "many"))) (aCons (aC (.str (q "characters"))) (aCons (aC (.int 20)) aNil)))) aNil)))
  (sSeq (sIf (aTest (a2 neA (aSaid 2 "_law_added_right" (ql "_law_added_right") F__law_said (a2x (fAddL "Pattern" F_Pattern_add) (aVar 1) (aVar 4))) (aVar 7)))
  (sRet (aC (.bl false)))
  sNil)
  (sIf (aTest (a2 neA (aSaid 2 "_law_added_right" (ql "_law_added_right") F__law_said (a2x (fAddR "Pattern" F_Pattern_radd) (aVar 4) (aVar 1))) (aVar 7)))
  (sRet (aC (.bl false)))
  sNil))))
  (sSeq (sFor (iA (aCall F__law_no_counts [] aNil)) (gN 8)
  (sSeq (sSet 7 (aL repMA (aCons (aLst (aCons (aC (.str (q "count"))) (aCons (aVar 8) aNil))) aNil)))
  (sSeq (sIf (aTest (a2 neA (aSaid 2 "_law_added_right" (ql "_law_added_right") F__law_said (a2x (fAddL "Pattern" F_Pattern_add) (aVar 1) (aVar 8))) (aVar 7)))
  (sRet (aC (.bl false)))
  sNil)
  (sIf (aTest (a2 neA (aSaid 2 "_law_added_right" (ql "_law_added_right") F__law_said (a2x (fAddR "Pattern" F_Pattern_radd) (aVar 8) (aVar 1))) (aVar 7)))
  (sRet (aC (.bl false)))
  sNil))))
  (sRet (aC (.bl true)))))))
theorem W__law_added_right : ∃ f : AF, f = fB 9 B__law_added_right := ⟨_, rfl⟩
noncomputable def F__law_added_right : AF := Classical.choose W__law_added_right
theorem F__law_added_right_eq : F__law_added_right = fB 9 B__law_added_right := Classical.choose_spec W__law_added_right
noncomputable def B__law_right : AS := (sSeq (sSet 1 (aCall F__law_pattern_text [] (aCons (aVar 0) aNil)))
  (sSeq (sAsg (aTup (aCons (aMakeF "Pattern" F_Pattern_init [] (aCons (aVar 1) aNil)) (aCons (aMakeK "Pattern" F_Pattern_init [] [0, 1] (aCons (aVar 1) aNil)) aNil))) (gT 2 (gsCons (gN 2) (gsCons (gN 3) gsNil))))
  (sSeq (sIf (aOrT (aTest (a2 neA (aL repA (aCons (aLst (aCons (a1x (fStr "Pattern" F_Pattern_str) (aVar 2)) (aCons (a1x (fLen "Pattern" F_Pattern_len) (aVar 2)) aNil))) aNil)) (aL repA (aCons (aLst (aCons (aVar 1) (aCons (a2 subT (aL lenA (aCons (aVar 1) aNil)) (aC (.int 1))) aNil))) aNil)))) (aOrT (aTest (a2x (fNeG anc "Pattern" F_Pattern_eq) (aVar 2) (aVar 3))) (aNotT (aTest (a2x (fEqG anc [("Pattern", F_Pattern_eq)]) (aVar 2) (aVar 3))))))
  (sRet (aC (.bl false)))
  sNil)
  (sSeq (sSet 4 (aLst (aCons (aVar 1) (aCons (aC .non) (aCons (aC (.int 5)) (aCons (aTup (aCons (aVar 1) aNil)) (aCons (aMakeF "Pattern" F_Pattern_init [] (aCons (aIf (aTest (a2 neA (aVar 1) (aC (.str (q "#"))))) (aC (.str (q "#"))) (aC (.str (q "# ")))) aNil)) (aCons (aLst (aCons (aVar 2) aNil)) aNil))))))))
  (sSeq (sIf (aOrT (aTru (aL anyA (aCons (aLc (iA (aVar 4)) (cN 5) [5] aYes (a2x (fEqG anc [("Pattern", F_Pattern_eq)]) (aVar 2) (aVar 5))) aNil))) (aNotT (aTru (aL allA (aCons (aLc (iA (aVar 4)) (cN 5) [5] aYes (a2x (fNeG anc "Pattern" F_Pattern_eq) (aVar 2) (aVar 5))) aNil)))))
  (sRet (aC (.bl false)))
  sNil)
  (sSeq (sIf (aOrT (aNotT (aTru (aCall F__law_refused_right [] (aCons (aVar 0) (aCons (aVar 1) aNil))))) (aNotT (aTru (aCall F__law_filled_right [] (aCons (aVar 0) (aCons (aVar 2) (aCons (aVar 1) aNil)))))))
  (sRet (aC (.bl false)))
  sNil)
  (sRet (aAnd (aCall F__law_added_right [] (aCons (aVar 0) (aCons (aVar 2) (aCons (aVar 1) aNil)))) (aAnd (a2 eqA (a1x (fStr "Pattern" F_Pattern_str) (aVar 2)) (aVar 1)) (aCall F__law_words_right [] (aCons (aVar 0) aNil)))))))))))
theorem W__law_right : ∃ f : AF, f = fB 6 B__law_right := ⟨_, rfl⟩
noncomputable def F__law_right : AF := Classical.choose W__law_right
theorem F__law_right_eq : F__law_right = fB 6 B__law_right := Classical.choose_spec W__law_right
noncomputable def B_law : AS := (sRet (aL allA (aCons (aLc (iR1 (aCons (aL max2A (aCons (aC (.int 1)) (aCons (aL min2A (aCons (aC (.int 5)) (aCons (aL lenA (aCons (aVar 0) aNil)) aNil))) aNil))) aNil)) (cN 1) [1] aYes (aCall F__law_right [] (aCons (aCall F__law_rng [] (aCons (aVar 0) (aCons (aVar 1) aNil))) aNil))) aNil)))
noncomputable def F_law : AF := fB 2 B_law
end AM
set_option maxHeartbeats 4000000
namespace AM
open PySem PySem.Spec PyProof.Rows L2 Eb
theorem draw0 (n : Nat) (x y k : Int) (m : Mem) (P : PX) (Fx : FX) (hx : 0 ≤ x) (hy : 0 ≤ y) (hy2 : y < 2147483648) (hk : 0 < k) (hk2 : k ≤ 10 ^ 60) (hn : m[n]? = some (.lst [.int x, .int y]))
    (h : ∀ d x' y', 0 ≤ d → d < k → 0 ≤ x' → 0 ≤ y' → y' < 2147483648 → P (.int d) (m.set n (.lst [.int x', .int y']))) : Fr__law_draw [.obj n, .int k] m P Fx := by
  have hl : n < m.length := (List.getElem?_eq_some_iff.mp hn).1
  have hs : ∀ c : Cell, (m.set n c)[n]? = some c := fun c => List.getElem?_set_self hl
  have i0 : ixT 2 0 = some 0 := rfl
  have i1 : ixT 2 1 = some 1 := rfl
  by_cases hx0 : 0 < x
  · simp [Fr__law_draw, B__law_draw, fB, asS, asL, asX, asD, hn, getI, setL, hx0, i0, i1, hs]
    (repeat' apply And.intro) <;> first
      | exact pow18 | exact mulR (by omega) (by omega) | exact mulL (by omega) (by omega) | exact div_mid (by omega) (by omega) | exact div_small (by omega) (by omega) | exact (div_mid (by omega) (by omega)).2 | exact (div_small (by omega) (by omega)).2 | exact lt_bigB (by decide +kernel) | omega | decide
      | (apply h <;> first | omega | (split <;> omega) | (split <;> split <;> omega) | exact Int.emod_nonneg _ (by omega) | exact Int.emod_lt_of_pos _ (by omega) | exact Int.ediv_nonneg (by omega) (by omega))
  · simp [Fr__law_draw, B__law_draw, fB, asS, asL, asX, asD, hn, getI, setL, hx0, i0, i1, hs, hk]
    (repeat' apply And.intro) <;> first
      | exact pow18 | exact mulR (by omega) (by omega) | exact mulL (by omega) (by omega) | exact div_mid (by omega) (by omega) | exact div_small (by omega) (by omega) | exact (div_mid (by omega) (by omega)).2 | exact (div_small (by omega) (by omega)).2 | exact lt_bigB (by decide +kernel) | omega | decide
      | (apply h <;> first | omega | (split <;> omega) | (split <;> split <;> omega) | exact Int.emod_nonneg _ (by omega) | exact Int.emod_lt_of_pos _ (by omega) | exact Int.ediv_nonneg (by omega) (by omega))
theorem pot0 (ns : List Int) (k : Int) (m : Mem) (P : PX) (Fx : FX) (hk : 0 ≤ k) (hk2 : k ≤ 1000000)
    (h : ∀ x y, 0 ≤ x → 0 ≤ y → y < 2147483648 → P (.obj m.length) (m ++ [.lst [.int x, .int y]])) : Fr__law_rng [.scr ns, .int k] m P Fx := by
  obtain ⟨kn, rfl⟩ := Int.eq_ofNat_of_zero_le hk
  by_cases hc : kn < ns.length
  · simp [Fr__law_rng, B__law_rng, fB, asS, asL, asX, asD, getI, setL, hc, aCell, cellOf]
    generalize ns[kn] = z
    (repeat' apply And.intro) <;> first
      | exact pow18 | exact mulR (by omega) (by omega) | exact mulL (by omega) (by omega) | exact div_small (by omega) (by omega) | exact (div_small (by omega) (by omega)).2 | exact lt_bigB (by decide +kernel) | omega | decide
      | (apply h <;> first | omega | (split <;> omega) | (split <;> split <;> omega) | exact Int.emod_nonneg _ (by omega) | exact Int.emod_lt_of_pos _ (by omega) | exact Int.ediv_nonneg (by omega) (by omega))
  · simp [Fr__law_rng, B__law_rng, fB, asS, asL, asX, asD, getI, setL, hc, aCell, cellOf]
    (repeat' apply And.intro) <;> first
      | exact pow18 | exact mulR (by omega) (by omega) | exact mulL (by omega) (by omega) | exact div_small (by omega) (by omega) | exact (div_small (by omega) (by omega)).2 | exact lt_bigB (by decide +kernel) | omega | decide
      | (apply h <;> first | omega | (split <;> omega) | (split <;> split <;> omega) | exact Int.emod_nonneg _ (by omega) | exact Int.emod_lt_of_pos _ (by omega) | exact Int.ediv_nonneg (by omega) (by omega))
end AM
set_option maxHeartbeats 4000000
namespace Wk
open PySem PySem.Spec PyProof.Rows L2 Eb AM Tx
section
variable {P : Program} {w : World} {K : PySem.W.Frag} {mg : Str → Option Value} {base : Heap}
theorem exi_InvalidCount (T : Tx.TY K mg base) : Exi P w K mg base "InvalidCount" "value" := by
  refine exi_of (C := 0) T.d_InvalidCount_init T.x_InvalidCount Tx.sc_InvalidCount_init (fun _ _ _ _ _ _ us hl => match us, hl with | [_, _], _ => rfl) ?_ ?_
  · rintro vs H Q E ⟨a, v, rfl, _⟩; rfl
  · rintro cdv A' outer s H vs Q E hr ⟨a, v, rfl, ha, q⟩
    refine ⟨_, by exact (pss_one (ps_ost (pv 0) (pv 1))), ?_⟩
    exact ⟨_, rfl, _, rfl, a, _, rfl, T.x_InvalidCount.cls, T.x_InvalidCount.no, .inl ⟨ha, q⟩⟩
theorem exi_InvalidPattern (T : Tx.TY K mg base) : Exi P w K mg base "InvalidPattern" "value" := by
  refine exi_of (C := 0) T.d_InvalidPattern_init T.x_InvalidPattern Tx.sc_InvalidPattern_init (fun _ _ _ _ _ _ us hl => match us, hl with | [_, _], _ => rfl) ?_ ?_
  · rintro vs H Q E ⟨a, v, rfl, _⟩; rfl
  · rintro cdv A' outer s H vs Q E hr ⟨a, v, rfl, ha, q⟩
    refine ⟨_, by exact (pss_one (ps_ost (pv 0) (pv 1))), ?_⟩
    exact ⟨_, rfl, _, rfl, a, _, rfl, T.x_InvalidPattern.cls, T.x_InvalidPattern.no, .inl ⟨ha, q⟩⟩
theorem exi_TooMany (T : Tx.TY K mg base) : Exi2 P w K mg base "TooMany" "what" "limit" := by
  refine exi2_of T.d_TooMany_init T.x_TooMany Tx.sc_TooMany_init (fun _ _ _ _ _ _ us hl => match us, hl with | [_, _, _], _ => rfl) ?_ ?_
  · rintro vs H Q E ⟨a, v, u, rfl, _⟩; rfl
  · rintro cdv A' outer s H vs Q E hr ⟨a, v, u, rfl, ha, q⟩
    refine ⟨_, by exact (pss_cons (psG_ost (pv 0) (pv 1)) (pss_one (psG_ost (pv 0) (pv 2)))), ?_⟩
    exact ⟨_, rfl, _, rfl, a, _, rfl, T.x_TooMany.cls, T.x_TooMany.no, .inl ⟨ha, fun d nd ne => ⟨_, rfl, _, rfl, a, _, rfl, T.x_TooMany.cls, T.x_TooMany.no2, .inr ⟨d, _, upd_same, by rw [upd_ne ne, upd_same], by simp, q d nd ne⟩⟩⟩⟩
theorem ok_is_integer (T : Tx.TY K mg base) : CalA true false P w K mg base Tx.cls 1 "is_integer" [] 1 F_is_integer := by
  rw [F_is_integer_eq]
  refine calA (k := 0) (a := B_is_integer) T.d_is_integer T.g_is_integer Tx.sc_is_integer (fun _ _ _ _ _ _ us hl => match us, hl with | [_], _ => rfl) rfl ?_
  intro cdv A outer s H E X hX hg hr
  subst hX
  exact (s2_one (s_ret (se_and (se_isi (d := "int") (fun h1 h2 => pe_callB call_isi (by rfl) T.b_isinstance (by decide +kernel) (pa_cons h1 (pa_cons h2 pa_nil))) clsNo T.ki_int (SE.sb (se_var (pv 0))) (pe_ty (T := "int") T.b_int (by decide +kernel))) (se_one (se_not (SE.sb (se_isi (d := "bool") (fun h1 h2 => pe_callB call_isi (by rfl) T.b_isinstance (by decide +kernel) (pa_cons h1 (pa_cons h2 pa_nil))) clsNo T.ki_bool (SE.sb (se_var (pv 0))) (pe_ty (T := "bool") T.b_bool (by decide +kernel)))))))))
theorem ok_is_count (T : Tx.TY K mg base) : CalA true false P w K mg base Tx.cls 2 "is_count" [] 1 F_is_count := by
  rw [F_is_count_eq]
  refine calA (k := 1) (a := B_is_count) T.d_is_count T.g_is_count Tx.sc_is_count (fun _ _ _ _ _ _ us hl => match us, hl with | [_], _ => rfl) rfl ?_
  intro cdv A outer s H E X hX hg hr
  subst hX
  exact (s2_one (s_ret (se_and (se_call (ok_is_integer T) hg hr (by decide) (by exact rfl) (by rfl) (sa_cons (se_var (pv 0)) sa_nil)) (se_one (se_2 (fun h1 h2 => pe_cmpR op_ge h1 h2 (nomark _)) sim_ge (SE.sb (se_var (pv 0))) (SE.sb (se_int pe_int)))))))
theorem ok_is_character (T : Tx.TY K mg base) : CalA true false P w K mg base Tx.cls 1 "is_character" [] 1 F_is_character := by
  rw [F_is_character_eq]
  refine calA (k := 0) (a := B_is_character) T.d_is_character T.g_is_character Tx.sc_is_character (fun _ _ _ _ _ _ us hl => match us, hl with | [_], _ => rfl) rfl ?_
  intro cdv A outer s H E X hX hg hr
  subst hX
  exact (s2_one (s_ret (se_and (se_chain (fun h1 h2 h3 => pe_chain op_le op_le h1 h2 h3) sim_le sim_le (SE.sb (se_int pe_int)) (SE.sb (se_L (fun h => pe_callB call_ord (by rfl) T.b_ord (by decide +kernel) h) sim_ord (sab_cons (SE.sb (se_var (pv 0))) sab_nil))) (SE.sb (se_int pe_int))) (se_one (se_2 (fun h1 h2 => pe_cmpR (op_ninA (hu_of hr)) h1 h2 (by rfl)) sim_nin (SE.sb (se_L (fun h => pe_callB call_ord (by rfl) T.b_ord (by decide +kernel) h) sim_ord (sab_cons (SE.sb (se_var (pv 0))) sab_nil))) (SE.sb (se_ktup (pe_gr T.g_NOT_IN_WORDS) T.k_NOT_IN_WORDS (fun _ _ => kOk_vrs (by decide +kernel)))))))))
theorem by_is_word (T : Tx.TY K mg base) : By0 true P w K mg base Tx.cls 1 (He.ga K "is_word") Tx.N_is_word "is_word" (defBody Tx.s_is_word) (defScope Tx.s_is_word) B_is_word := by
  intro cdv A outer s H E X hX hg hr
  subst hX
  exact (s2_cons (s_if (SW.st (sw_or (st_not (st_tru (SE.sb (se_isi (d := "str") (fun h1 h2 => pe_callB call_isi (by rfl) T.b_isinstance (by decide +kernel) (pa_cons h1 (pa_cons h2 pa_nil))) clsNo T.ki_str (SE.sb (se_var (pv 0))) (pe_ty (T := "str") T.b_str (by decide +kernel)))) (by intro _; rfl))) (sw_or1 (st_2 (fun h1 h2 => pt_cmpR op_gt h1 h2 (nomark _)) sim_gt (SE.sb (se_L (fun h => pe_callB call_len (by rfl) T.b_len (by decide +kernel) h) sim_len (sab_cons (SE.sb (se_var (pv 0))) sab_nil))) (SE.sb (se_int (pe_gi T.k_MOST_CHARACTERS)))))))
  (s2_one (s_ret (se_bl pe_bl)))
  s2_nil)
  (s2_one (s_ret (se_L (fun h => pe_callB (cr_all rfl) (by rfl) T.b_all (by decide +kernel) h) sim_all (sab_cons (SE.sb (SF.se (sf_lc (own := [("sign", 1)]) (gt := (gName 1)) rfl Tx.sc_is_word.nd (sim_cN 1) (SI.sib (si_any (se_var (pv 0)))) (blkOk_by (own := [("sign", 1)]) (N := Tx.N_is_word) (sc := defScope Tx.s_is_word) (by decide +kernel)) (fun _ _ _ _ _ => (pg_name (i := 1) Tx.sc_is_word.nd rfl (Or.inl rfl))) (fun _ _ _ _ _ => ses_nil) (fun _ _ _ _ _ => (se_call (ok_is_character T) hg hr (by decide) (by exact rfl) (by rfl) (sa_cons (se_var (pv 1)) sa_nil)))))) sab_nil)))))
theorem ok_is_word (T : Tx.TY K mg base) : CalA true false P w K mg base Tx.cls 2 "is_word" [] 1 F_is_word := by
  rw [F_is_word_eq]
  exact calA (k := 1) (a := B_is_word) T.d_is_word T.g_is_word Tx.sc_is_word (fun _ _ _ _ _ _ us hl => match us, hl with | [_], _ => rfl) rfl (by_is_word T)
theorem ok_is_word_k0_value (T : Tx.TY K mg base) : CalK true false P w K mg base Tx.cls 2 "is_word" ["value"] 0 [0] F_is_word := by
  rw [F_is_word_eq]
  exact calK (k := 1) (s := B_is_word) ["value"] 0 [0] T.d_is_word T.g_is_word Tx.sc_is_word (fun _ _ _ _ _ _ us ws h1 h2 => match us, ws, h1, h2 with | [], [_], _, _ => rfl) rfl (by decide) (by_is_word T)
theorem ok_is_pattern_text (T : Tx.TY K mg base) : CalA true false P w K mg base Tx.cls 2 "is_pattern_text" [] 1 F_is_pattern_text := by
  rw [F_is_pattern_text_eq]
  refine calA (k := 1) (a := B_is_pattern_text) T.d_is_pattern_text T.g_is_pattern_text Tx.sc_is_pattern_text (fun _ _ _ _ _ _ us hl => match us, hl with | [_], _ => rfl) rfl ?_
  intro cdv A outer s H E X hX hg hr
  subst hX
  exact (s2_cons (s_if (SW.st (sw_or (st_not (st_tru (SE.sb (se_isi (d := "str") (fun h1 h2 => pe_callB call_isi (by rfl) T.b_isinstance (by decide +kernel) (pa_cons h1 (pa_cons h2 pa_nil))) clsNo T.ki_str (SE.sb (se_var (pv 0))) (pe_ty (T := "str") T.b_str (by decide +kernel)))) (by intro _; rfl))) (sw_or1 (st_2 (fun h1 h2 => pt_cmpR op_gt h1 h2 (nomark _)) sim_gt (SE.sb (se_L (fun h => pe_callB call_len (by rfl) T.b_len (by decide +kernel) h) sim_len (sab_cons (SE.sb (se_var (pv 0))) sab_nil))) (SE.sb (se_int (pe_gi T.k_MOST_CHARACTERS)))))))
  (s2_one (s_ret (se_bl pe_bl)))
  s2_nil)
  (s2_cons (s_setF (s_setLc (i := 1) (own := [("sign", 2)]) (gt := (gName 2)) rfl Tx.sc_is_pattern_text.nd rfl rfl (sw_true rfl rfl rfl (by decide +kernel)) (sim_cN 2) (SI.sib (si_any (se_var (pv 0)))) (blkOk_by (own := [("sign", 2)]) (N := Tx.N_is_pattern_text) (sc := defScope Tx.s_is_pattern_text) (by decide +kernel)) (fun _ _ _ _ _ => (pg_name (i := 2) Tx.sc_is_pattern_text.nd rfl (Or.inl rfl))) (fun _ _ _ _ _ => (ses_one (st_2 (fun h1 h2 => pt_cmpR (op_neD hr.units) h1 h2 (nomark _)) sim_ne (SE.sb (se_var (pv 2))) (SE.sb (se_str (s := "#") (pe_gs T.k_HASH) (by decide +kernel)))))) (fun _ _ _ _ _ => (se_var (pv 2)))))
  (s2_one (s_ret (se_and (se_2 (fun h1 h2 => pe_cmpR (op_eqD hr.units) h1 h2 (nomark _)) sim_eq (SE.sb (se_L (fun h => pe_callB call_len (by rfl) T.b_len (by decide +kernel) h) sim_len (sab_cons (SE.sb (se_var (pv 1))) sab_nil))) (SE.sb (se_2 (fun h1 h2 => pe_op op_sub h1 h2) sim_sub (SE.sb (se_L (fun h => pe_callB call_len (by rfl) T.b_len (by decide +kernel) h) sim_len (sab_cons (SE.sb (se_var (pv 0))) sab_nil))) (SE.sb (se_int pe_int))))) (se_one (se_L (fun h => pe_callB (cr_all rfl) (by rfl) T.b_all (by decide +kernel) h) sim_all (sab_cons (SE.sb (SF.se (sf_lc (own := [("sign", 2)]) (gt := (gName 2)) rfl Tx.sc_is_pattern_text.nd (sim_cN 2) (SI.sib (si_any (se_var (pv 1)))) (blkOk_by (own := [("sign", 2)]) (N := Tx.N_is_pattern_text) (sc := defScope Tx.s_is_pattern_text) (by decide +kernel)) (fun _ _ _ _ _ => (pg_name (i := 2) Tx.sc_is_pattern_text.nd rfl (Or.inl rfl))) (fun _ _ _ _ _ => ses_nil) (fun _ _ _ _ _ => (se_call (ok_is_character T) hg hr (by decide) (by exact rfl) (by rfl) (sa_cons (se_var (pv 2)) sa_nil)))))) sab_nil))))))))
theorem by_Pattern_init (T : Tx.TY K mg base) : By1 true P w K mg base Tx.cls 2 (He.ma K (He.ga K "Pattern") "__init__") Tx.N_Pattern_init "Pattern.__init__" (defBody Tx.s_Pattern_init) (defScope Tx.s_Pattern_init) B_Pattern_init := by
  refine by1_of ?_
  intro cdv A outer s H E X hX hg hr tk hp
  subst hX
  exact (s2_cons (s_if (ST.nf (st_not (st_tru (SE.sb (se_call (ok_is_pattern_text T) hg hr (by decide) (by exact rfl) (by rfl) (sa_cons (se_var (pv 1)) sa_nil))) (by intro _; rfl))))
  (s2_one (s_raise (x := "InvalidPattern") (f := "value") (exi_InvalidPattern T) rfl tk hr (by decide) (by rfl) (se_var (pv 1))))
  s2_nil)
  (s2_cons (s_fldS (f := "own_text") (cs := ["Pattern"]) (by intro C h _; cases List.mem_singleton.mp h; exact T.na_Pattern_own_text) (se_var (pv 0)) (se_var (pv 1)) rfl)
  (s2_cons (s_set (fun h => ps_set (i := 2) Tx.sc_Pattern_init.nd rfl (Or.inl rfl) h) (se_2 (fun h1 h2 => pe_ix (ix_A (hu_of hr)) h1 h2 (fun _ _ => rfl)) sim_ix (SE.sb (SF.se (sf_lc (own := [("at", 3), ("sign", 4)]) (gt := (gTup K 2 (gNs [3, 4]))) rfl Tx.sc_Pattern_init.nd (sim_cT [3, 4] rfl) (SI.sib (si_enumS (by rfl) T.b_enumerate (sa_cons (se_var (pv 1)) sa_nil))) (blkOk_by (own := [("at", 3), ("sign", 4)]) (N := Tx.N_Pattern_init) (sc := defScope Tx.s_Pattern_init) (by decide +kernel)) (fun _ _ _ _ _ => (by exact (pg_tup rfl (pgs_cons (pg_name (i := 3) Tx.sc_Pattern_init.nd rfl (Or.inl rfl)) (pgs_cons (pg_name (i := 4) Tx.sc_Pattern_init.nd rfl (Or.inl rfl)) pgs_nil))))) (fun _ _ _ _ _ => (ses_one (st_2 (fun h1 h2 => pt_cmpR (op_eqD hr.units) h1 h2 (nomark _)) sim_eq (SE.sb (se_var (pv 4))) (SE.sb (se_str (s := "#") (pe_gs T.k_HASH) (by decide +kernel)))))) (fun _ _ _ _ _ => (se_var (pv 3)))))) (SE.sb (se_int pe_int))))
  (s2_one (s_asg (fun he hg => ps_asg he hg) (se_tup (sa_cons (se_slice (SE.sb (se_var (pv 1))) so_none (so_some (SE.sb (se_var (pv 2))))) (sa_cons (se_slice (SE.sb (se_var (pv 1))) (so_some (SE.sb (se_2 (fun h1 h2 => pe_op op_addA h1 h2) sim_add (SE.sb (se_var (pv 2))) (SE.sb (se_int pe_int))))) so_none) sa_nil))) (sg_tup rfl (sgs_cons (sg_fld (f := "own_ahead") (cs := ["Pattern"]) (by intro C h _; cases List.mem_singleton.mp h; exact T.na_Pattern_own_ahead) (se_var (pv 0))) (sgs_cons (sg_fld (f := "own_behind") (cs := ["Pattern"]) (by intro C h _; cases List.mem_singleton.mp h; exact T.na_Pattern_own_behind) (se_var (pv 0))) sgs_nil))))))))
theorem ok_Pattern_make1 (T : Tx.TY K mg base) : MakA true true P w K mg base Tx.cls 3 "Pattern" [] 1 F_Pattern_init := by
  rw [F_Pattern_init_eq]
  refine makX1 (k := 2) (a := B_Pattern_init) T.d_Pattern_init T.mk_Pattern T.g_Pattern (Tx.ik_Pattern T.toTX) Tx.sc_Pattern_init (fun _ _ _ _ _ _ us hl => match us, hl with | [_, _], _ => rfl) rfl (by_Pattern_init T)
theorem ok_Pattern_init_k_text (T : Tx.TY K mg base) : MakK true true P w K mg base Tx.cls 3 "Pattern" ["text"] [] [0, 1] F_Pattern_init := by
  rw [F_Pattern_init_eq]
  exact makK0 (ps := ["self", "text"]) ["text"] [0, 1] T.d_Pattern_init T.mk_Pattern T.g_Pattern (Tx.ik_Pattern T.toTX) (fun _ _ _ _ _ _ us ws h1 h2 => match us, ws, h1, h2 with | [_], [_], _, _ => rfl) rfl (by decide) (fun fd F => fa1 F Tx.sc_Pattern_init (by_Pattern_init T))
theorem by_Pattern_filled (T : Tx.TY K mg base) : By1 true P w K mg base Tx.cls 2 (He.ma K (He.ga K "Pattern") "filled") Tx.N_Pattern_filled "Pattern.filled" (defBody Tx.s_Pattern_filled) (defScope Tx.s_Pattern_filled) B_Pattern_filled := by
  refine by1_of ?_
  intro cdv A outer s H E X hX hg hr tk hp
  subst hX
  exact (s2_cons (s_if (ST.nf (st_not (st_tru (SE.sb (se_call (ok_is_count T) hg hr (by decide) (by exact rfl) (by rfl) (sa_cons (se_var (pv 1)) sa_nil))) (by intro _; rfl))))
  (s2_one (s_raise (x := "InvalidCount") (f := "value") (exi_InvalidCount T) rfl tk hr (by decide) (by rfl) (se_var (pv 1))))
  s2_nil)
  (s2_one (s_ret (se_bm (fun ho ha => pe_bm PySem.F.plainAttrs_str PySem.F.slot_str_join PySem.F.type_str_join mt_join ho ha) sim_join (SE.sb (se_str (s := "") pe_str (by decide +kernel))) (sab_cons (SE.sb (SF.se (sf_lst (sa_cons (se_fld (f := "own_ahead") (se_var (pv 0))) (sa_cons (se_L (fun h => pe_callTy (call_or call_str_int SkE.call_str_str) (by rfl) T.b_str (by decide +kernel) h) sim_str (sab_cons (SE.sb (se_var (pv 1))) sab_nil)) (sa_cons (se_fld (f := "own_behind") (se_var (pv 0))) sa_nil)))))) sab_nil)))))
theorem ok_Pattern_filled (T : Tx.TY K mg base) : MetA true true P w K mg base Tx.cls 3 "Pattern" "filled" [] 1 F_Pattern_filled := by
  rw [F_Pattern_filled_eq]
  refine metX1 (k := 2) (a := B_Pattern_filled) T.d_Pattern_filled T.m_Pattern_filled Tx.sc_Pattern_filled (fun _ _ _ _ _ _ us hl => match us, hl with | [_, _], _ => rfl) rfl (by_Pattern_filled T)
theorem ok_Pattern_filled_k_number (T : Tx.TY K mg base) : MetK true true P w K mg base Tx.cls 3 "Pattern" "filled" ["number"] [0, 1] F_Pattern_filled := by
  rw [F_Pattern_filled_eq]
  exact metK (ps := ["self", "number"]) ["number"] [0, 1] T.d_Pattern_filled T.m_Pattern_filled (fun _ _ _ _ _ _ us ws h1 h2 => match us, ws, h1, h2 with | [_], [_], _, _ => rfl) rfl (by decide) (fun fd F => fa1 F Tx.sc_Pattern_filled (by_Pattern_filled T))
theorem by_Pattern_width (T : Tx.TY K mg base) : By1 true P w K mg base Tx.cls 3 (He.ma K (He.ga K "Pattern") "width") Tx.N_Pattern_width "Pattern.width" (defBody Tx.s_Pattern_width) (defScope Tx.s_Pattern_width) B_Pattern_width := by
  refine by1_of ?_
  intro cdv A outer s H E X hX hg hr tk hp
  subst hX
  exact (s2_one (s_ret (se_L (fun h => pe_callB call_len (by rfl) T.b_len (by decide +kernel) h) sim_len (sab_cons (SE.sb (se_meth (ok_Pattern_filled T) hg hr (by decide) tk (se_var (pv 0)) (sa_cons (se_var (pv 1)) sa_nil))) sab_nil))))
theorem ok_Pattern_width (T : Tx.TY K mg base) : MetA true true P w K mg base Tx.cls 4 "Pattern" "width" [] 1 F_Pattern_width := by
  rw [F_Pattern_width_eq]
  refine metX1 (k := 3) (a := B_Pattern_width) T.d_Pattern_width T.m_Pattern_width Tx.sc_Pattern_width (fun _ _ _ _ _ _ us hl => match us, hl with | [_, _], _ => rfl) rfl (by_Pattern_width T)
theorem ok_Pattern_width_k_number (T : Tx.TY K mg base) : MetK true true P w K mg base Tx.cls 4 "Pattern" "width" ["number"] [0, 1] F_Pattern_width := by
  rw [F_Pattern_width_eq]
  exact metK (ps := ["self", "number"]) ["number"] [0, 1] T.d_Pattern_width T.m_Pattern_width (fun _ _ _ _ _ _ us ws h1 h2 => match us, ws, h1, h2 with | [_], [_], _, _ => rfl) rfl (by decide) (fun fd F => fa1 F Tx.sc_Pattern_width (by_Pattern_width T))
theorem by_Pattern_want_room (T : Tx.TY K mg base) : By1 true P w K mg base Tx.cls 2 (He.ma K (He.ga K "Pattern") "want_room") Tx.N_Pattern_want_room "Pattern.want_room" (defBody Tx.s_Pattern_want_room) (defScope Tx.s_Pattern_want_room) B_Pattern_want_room := by
  refine by1_of ?_
  intro cdv A outer s H E X hX hg hr tk hp
  subst hX
  exact (s2_cons (s_if (ST.nf (st_not (st_tru (SE.sb (se_call (ok_is_count T) hg hr (by decide) (by exact rfl) (by rfl) (sa_cons (se_var (pv 1)) sa_nil))) (by intro _; rfl))))
  (s2_one (s_raise (x := "InvalidCount") (f := "value") (exi_InvalidCount T) rfl tk hr (by decide) (by rfl) (se_var (pv 1))))
  s2_nil)
  (s2_one (s_if (st_2 (fun h1 h2 => pt_cmpR op_gt h1 h2 (nomark _)) sim_gt (SE.sb (se_2 (fun h1 h2 => pe_op op_addA h1 h2) sim_add (SE.sb (se_L (fun h => pe_callB call_len (by rfl) T.b_len (by decide +kernel) h) sim_len (sab_cons (SE.sb (se_fld (f := "own_text") (se_var (pv 0)))) sab_nil))) (SE.sb (se_L (fun h => pe_callTy call_intTA (by rfl) T.b_int (by decide +kernel) h) sim_intT (sab_cons (SE.sb (se_var (pv 1))) sab_nil))))) (SE.sb (se_int (pe_gi T.k_MOST_CHARACTERS))))
  (s2_one (s_raise2 (x := "TooMany") (f := "what") (g := "limit") (exi_TooMany T) rfl tk hr (by decide) (by rfl) (sa_cons (se_str (s := "characters") pe_str (by decide +kernel)) (sa_cons (se_int (pe_gi T.k_MOST_CHARACTERS)) sa_nil))))
  s2_nil)))
theorem ok_Pattern_want_room (T : Tx.TY K mg base) : MetA true true P w K mg base Tx.cls 3 "Pattern" "want_room" [] 1 F_Pattern_want_room := by
  rw [F_Pattern_want_room_eq]
  refine metX1 (k := 2) (a := B_Pattern_want_room) T.d_Pattern_want_room T.m_Pattern_want_room Tx.sc_Pattern_want_room (fun _ _ _ _ _ _ us hl => match us, hl with | [_, _], _ => rfl) rfl (by_Pattern_want_room T)
theorem by_Pattern_add (T : Tx.TY K mg base) : By1 true P w K mg base Tx.cls 4 (He.ma K (He.ga K "Pattern") "__add__") Tx.N_Pattern_add "Pattern.__add__" (defBody Tx.s_Pattern_add) (defScope Tx.s_Pattern_add) B_Pattern_add := by
  refine by1_of ?_
  intro cdv A outer s H E X hX hg hr tk hp
  subst hX
  exact (s2_cons (s_drop (SE.sb (se_meth (ok_Pattern_want_room T) hg hr (by decide) tk (se_var (pv 0)) (sa_cons (se_var (pv 1)) sa_nil))))
  (s2_one (s_ret (se_makeC2 (C := "Pattern") (ok_Pattern_make1 T) hg hr (by decide) tk (by rfl) (sa_cons (se_2 (fun h1 h2 => pe_op op_addA h1 h2) sim_add (SE.sb (se_fld (f := "own_text") (se_var (pv 0)))) (SE.sb (se_2 (fun h1 h2 => pe_op op_mulA h1 h2) sim_mul (SE.sb (se_str (s := " ") (pe_gs T.k_BLANK) (by decide +kernel))) (SE.sb (se_L (fun h => pe_callTy call_intTA (by rfl) T.b_int (by decide +kernel) h) sim_intT (sab_cons (SE.sb (se_var (pv 1))) sab_nil)))))) sa_nil)))))
theorem ok_Pattern_add (T : Tx.TY K mg base) : MetA true true P w K mg base Tx.cls 5 "Pattern" "__add__" [] 1 F_Pattern_add := by
  rw [F_Pattern_add_eq]
  refine metX1 (k := 4) (a := B_Pattern_add) T.d_Pattern_add T.m_Pattern_add Tx.sc_Pattern_add (fun _ _ _ _ _ _ us hl => match us, hl with | [_, _], _ => rfl) rfl (by_Pattern_add T)
theorem by_Pattern_radd (T : Tx.TY K mg base) : By1 true P w K mg base Tx.cls 4 (He.ma K (He.ga K "Pattern") "__radd__") Tx.N_Pattern_radd "Pattern.__radd__" (defBody Tx.s_Pattern_radd) (defScope Tx.s_Pattern_radd) B_Pattern_radd := by
  refine by1_of ?_
  intro cdv A outer s H E X hX hg hr tk hp
  subst hX
  exact (s2_cons (s_drop (SE.sb (se_meth (ok_Pattern_want_room T) hg hr (by decide) tk (se_var (pv 0)) (sa_cons (se_var (pv 1)) sa_nil))))
  (s2_one (s_ret (se_makeC2 (C := "Pattern") (ok_Pattern_make1 T) hg hr (by decide) tk (by rfl) (sa_cons (se_2 (fun h1 h2 => pe_op op_addA h1 h2) sim_add (SE.sb (se_2 (fun h1 h2 => pe_op op_mulA h1 h2) sim_mul (SE.sb (se_str (s := " ") (pe_gs T.k_BLANK) (by decide +kernel))) (SE.sb (se_L (fun h => pe_callTy call_intTA (by rfl) T.b_int (by decide +kernel) h) sim_intT (sab_cons (SE.sb (se_var (pv 1))) sab_nil))))) (SE.sb (se_fld (f := "own_text") (se_var (pv 0))))) sa_nil)))))
theorem ok_Pattern_radd (T : Tx.TY K mg base) : MetA true true P w K mg base Tx.cls 5 "Pattern" "__radd__" [] 1 F_Pattern_radd := by
  rw [F_Pattern_radd_eq]
  refine metX1 (k := 4) (a := B_Pattern_radd) T.d_Pattern_radd T.m_Pattern_radd Tx.sc_Pattern_radd (fun _ _ _ _ _ _ us hl => match us, hl with | [_, _], _ => rfl) rfl (by_Pattern_radd T)
theorem ok_Pattern_len (T : Tx.TY K mg base) : MetA true false P w K mg base Tx.cls 1 "Pattern" "__len__" [] 0 F_Pattern_len := by
  rw [F_Pattern_len_eq]
  refine metA (k := 0) (a := B_Pattern_len) T.d_Pattern_len T.m_Pattern_len Tx.sc_Pattern_len (fun _ _ _ _ _ _ us hl => match us, hl with | [_], _ => rfl) rfl ?_
  intro cdv A outer s H E X hX hg hr
  subst hX
  exact (s2_one (s_ret (se_L (fun h => pe_callB call_len (by rfl) T.b_len (by decide +kernel) h) sim_len (sab_cons (SE.sb (se_2 (fun h1 h2 => pe_op op_addA h1 h2) sim_add (SE.sb (se_fld (f := "own_ahead") (se_var (pv 0)))) (SE.sb (se_fld (f := "own_behind") (se_var (pv 0)))))) sab_nil))))
theorem ok_Pattern_str (T : Tx.TY K mg base) : MetA true false P w K mg base Tx.cls 1 "Pattern" "__str__" [] 0 F_Pattern_str := by
  rw [F_Pattern_str_eq]
  refine metA (k := 0) (a := B_Pattern_str) T.d_Pattern_str T.m_Pattern_str Tx.sc_Pattern_str (fun _ _ _ _ _ _ us hl => match us, hl with | [_], _ => rfl) rfl ?_
  intro cdv A outer s H E X hX hg hr
  subst hX
  exact (s2_one (s_ret (se_L (fun h => pe_callTy (call_or call_str_int SkE.call_str_str) (by rfl) T.b_str (by decide +kernel) h) sim_str (sab_cons (SE.sb (se_fld (f := "own_text") (se_var (pv 0)))) sab_nil))))
theorem ok_Pattern_eq (T : Tx.TY K mg base) : MetA true false P w K mg base Tx.cls 1 "Pattern" "__eq__" [] 1 F_Pattern_eq := by
  rw [F_Pattern_eq_eq]
  refine metA (k := 0) (a := B_Pattern_eq) T.d_Pattern_eq T.m_Pattern_eq Tx.sc_Pattern_eq (fun _ _ _ _ _ _ us hl => match us, hl with | [_, _], _ => rfl) rfl ?_
  intro cdv A outer s H E X hX hg hr
  subst hX
  exact (s2_one (s_ret (se_and (se_isi (d := "Pattern") (fun h1 h2 => pe_callB call_isi (by rfl) T.b_isinstance (by decide +kernel) (pa_cons h1 (pa_cons h2 pa_nil))) clsNo T.ki_Pattern (SE.sb (se_var (pv 1))) (pe_gr T.g_Pattern)) (se_one (se_2 (fun h1 h2 => pe_cmpR (op_eqD hr.units) h1 h2 (nomark _)) sim_eq (SE.sb (se_fld (f := "own_text") (se_var (pv 0)))) (SE.sb (se_fld (f := "own_text") (se_var (pv 1)))))))))
theorem okr__law_rng (T : Tx.TY K mg base) : CalA true false P w K mg base Tx.cls 1 "_law_rng" [] 2 Fr__law_rng := by
  refine calA (k := 0) (a := B__law_rng) T.d__law_rng T.g__law_rng Tx.sc__law_rng (fun _ _ _ _ _ _ us hl => match us, hl with | [_, _], _ => rfl) rfl ?_
  intro cdv A outer s H E X hX hg hr
  subst hX
  exact (s2_cons (s_set (fun h => ps_set (i := 2) Tx.sc__law_rng.nd rfl (Or.inl rfl) h) (se_if (st_2 (fun h1 h2 => pt_cmpR op_ltA h1 h2 (nomark _)) sim_lt (SE.sb (se_var (pv 1))) (SE.sb (se_L (fun h => pe_callB call_len (by rfl) T.b_len (by decide +kernel) h) sim_len (sab_cons (SE.sb (se_var (pv 0))) sab_nil)))) (se_2 (fun h1 h2 => pe_ix (ix_A (hu_of hr)) h1 h2 (fun _ _ => rfl)) sim_ix (SE.sb (se_var (pv 0))) (SE.sb (se_var (pv 1)))) (se_2 (fun h1 h2 => pe_op op_addA h1 h2) sim_add (SE.sb (se_2 (fun h1 h2 => pe_op op_mulA h1 h2) sim_mul (SE.sb (se_int pe_int)) (SE.sb (se_var (pv 1))))) (SE.sb (se_int pe_int)))))
  (s2_one (s_ret (SF.cell (sf_lst (sa_cons (se_L (fun h => pe_callB (call_max2 rfl) (by rfl) T.b_max (by decide +kernel) h) sim_max2 (sab_cons (SE.sb (se_int pe_int)) (sab_cons (SE.sb (se_2 (fun h1 h2 => pe_op op_sub h1 h2) sim_sub (SE.sb (se_L (fun h => pe_callB call_abs (by rfl) T.b_abs (by decide +kernel) h) sim_abs (sab_cons (SE.sb (se_var (pv 2))) sab_nil))) (SE.sb (se_2 (fun h1 h2 => pe_op op_pow h1 h2) sim_pow (SE.sb (se_int pe_int)) (SE.sb (se_int pe_int)))))) sab_nil))) (sa_cons (se_2 (fun h1 h2 => pe_op op_addA h1 h2) sim_add (SE.sb (se_2 (fun h1 h2 => pe_op op_mod h1 h2) sim_mod (SE.sb (se_L (fun h => pe_callTy call_intTA (by rfl) T.b_int (by decide +kernel) h) sim_intT (sab_cons (SE.sb (se_2 (fun h1 h2 => pe_op op_addA h1 h2) sim_add (SE.sb (se_2 (fun h1 h2 => pe_op op_addA h1 h2) sim_add (SE.sb (se_2 (fun h1 h2 => pe_op op_mulA h1 h2) sim_mul (SE.sb (se_2 (fun h1 h2 => pe_op op_mod h1 h2) sim_mod (SE.sb (se_L (fun h => pe_callTy call_intTA (by rfl) T.b_int (by decide +kernel) h) sim_intT (sab_cons (SE.sb (se_L (fun h => pe_callB call_abs (by rfl) T.b_abs (by decide +kernel) h) sim_abs (sab_cons (SE.sb (se_var (pv 2))) sab_nil))) sab_nil))) (SE.sb (se_int pe_int)))) (SE.sb (se_int pe_int)))) (SE.sb (se_2 (fun h1 h2 => pe_op op_mulA h1 h2) sim_mul (SE.sb (se_int pe_int)) (SE.sb (se_var (pv 1))))))) (SE.sb (se_int pe_int)))) sab_nil))) (SE.sb (se_int pe_int)))) (SE.sb (se_int pe_int))) sa_nil)))))))
theorem ok__law_rng (T : Tx.TY K mg base) : CalA true false P w K mg base Tx.cls 1 "_law_rng" [] 2 F__law_rng := by
  rw [F__law_rng_eq]
  exact (okr__law_rng T).potM pot0
theorem okr__law_draw (T : Tx.TY K mg base) : CalA true false P w K mg base Tx.cls 1 "_law_draw" [] 2 Fr__law_draw := by
  refine calA (k := 0) (a := B__law_draw) T.d__law_draw T.g__law_draw Tx.sc__law_draw (fun _ _ _ _ _ _ us hl => match us, hl with | [_, _], _ => rfl) rfl ?_
  intro cdv A outer s H E X hX hg hr
  subst hX
  exact (s2_cons (s_if (st_2 (fun h1 h2 => pt_cmpR op_gt h1 h2 (nomark _)) sim_gt (SE.sb (se_2 (fun h1 h2 => pe_ix (ix_A (hu_of hr)) h1 h2 (fun _ _ => rfl)) sim_ix (SE.sb (se_var (pv 0))) (SE.sb (se_int pe_int)))) (SE.sb (se_int pe_int)))
  (s2_cons (s_asg (fun he hg => ps_asg he hg) (se_L (fun h => pe_callB call_divmodW (by rfl) T.b_divmod (by decide +kernel) h) sim_divmod (sab_cons (SE.sb (se_2 (fun h1 h2 => pe_ix (ix_A (hu_of hr)) h1 h2 (fun _ _ => rfl)) sim_ix (SE.sb (se_var (pv 0))) (SE.sb (se_int pe_int)))) (sab_cons (SE.sb (se_var (pv 1))) sab_nil))) (sg_tup rfl (sgs_cons (sg_sub (fun ho hi => pg_sub ho hi set_list) sim_setL (se_var (pv 0)) (SE.sb (se_int pe_int))) (sgs_cons (sg_name (i := 2) (pg_name (i := 2) Tx.sc__law_draw.nd rfl (Or.inl rfl))) sgs_nil))))
  (s2_one (s_ret (se_var (pv 2)))))
  s2_nil)
  (s2_cons (s_asg (fun he hg => ps_asg he hg) (se_2 (fun h1 h2 => pe_op op_mod h1 h2) sim_mod (SE.sb (se_L (fun h => pe_callTy call_intTA (by rfl) T.b_int (by decide +kernel) h) sim_intT (sab_cons (SE.sb (se_2 (fun h1 h2 => pe_op op_addA h1 h2) sim_add (SE.sb (se_2 (fun h1 h2 => pe_op op_mulA h1 h2) sim_mul (SE.sb (se_2 (fun h1 h2 => pe_ix (ix_A (hu_of hr)) h1 h2 (fun _ _ => rfl)) sim_ix (SE.sb (se_var (pv 0))) (SE.sb (se_int pe_int)))) (SE.sb (se_int pe_int)))) (SE.sb (se_int pe_int)))) sab_nil))) (SE.sb (se_int pe_int))) (sg_sub (fun ho hi => pg_sub ho hi set_list) sim_setL (se_var (pv 0)) (SE.sb (se_int pe_int))))
  (s2_one (s_ret (se_2 (fun h1 h2 => pe_op op_mod h1 h2) sim_mod (SE.sb (se_L (fun h => pe_callTy call_intTA (by rfl) T.b_int (by decide +kernel) h) sim_intT (sab_cons (SE.sb (se_2 (fun h1 h2 => pe_op op_fdivW h1 h2) sim_fdiv (SE.sb (se_2 (fun h1 h2 => pe_op op_mod h1 h2) sim_mod (SE.sb (se_L (fun h => pe_callTy call_intTA (by rfl) T.b_int (by decide +kernel) h) sim_intT (sab_cons (SE.sb (se_2 (fun h1 h2 => pe_op op_mulA h1 h2) sim_mul (SE.sb (se_2 (fun h1 h2 => pe_ix (ix_A (hu_of hr)) h1 h2 (fun _ _ => rfl)) sim_ix (SE.sb (se_var (pv 0))) (SE.sb (se_int pe_int)))) (SE.sb (se_2 (fun h1 h2 => pe_ix (ix_A (hu_of hr)) h1 h2 (fun _ _ => rfl)) sim_ix (SE.sb (se_var (pv 0))) (SE.sb (se_int pe_int)))))) sab_nil))) (SE.sb (se_int pe_int)))) (SE.sb (se_int pe_int)))) sab_nil))) (SE.sb (se_var (pv 1))))))))
theorem ok__law_draw (T : Tx.TY K mg base) : CalA true false P w K mg base Tx.cls 1 "_law_draw" [] 2 F__law_draw := by
  rw [F__law_draw_eq]
  exact (okr__law_draw T).potDB draw0
theorem ok__law_choice (T : Tx.TY K mg base) : CalA true false P w K mg base Tx.cls 2 "_law_choice" [] 2 F__law_choice := by
  rw [F__law_choice_eq]
  refine calA (k := 1) (a := B__law_choice) T.d__law_choice T.g__law_choice Tx.sc__law_choice (fun _ _ _ _ _ _ us hl => match us, hl with | [_, _], _ => rfl) rfl ?_
  intro cdv A outer s H E X hX hg hr
  subst hX
  exact (s2_one (s_ret (se_2 (fun h1 h2 => pe_ix (ix_A (hu_of hr)) h1 h2 (fun _ _ => rfl)) sim_ix (SE.sb (se_var (pv 1))) (SE.sb (se_call (ok__law_draw T) hg hr (by decide) (by exact rfl) (by rfl) (sa_cons (se_var (pv 0)) (sa_cons (se_L (fun h => pe_callB call_len (by rfl) T.b_len (by decide +kernel) h) sim_len (sab_cons (SE.sb (se_var (pv 1))) sab_nil)) sa_nil)))))))
theorem ok__law_word (T : Tx.TY K mg base) : CalA true false P w K mg base Tx.cls 3 "_law_word" [] 2 F__law_word := by
  rw [F__law_word_eq]
  refine calA (k := 2) (a := B__law_word) T.d__law_word T.g__law_word Tx.sc__law_word (fun _ _ _ _ _ _ us hl => match us, hl with | [_, _], _ => rfl) rfl ?_
  intro cdv A outer s H E X hX hg hr
  subst hX
  exact (s2_cons (s_set (fun h => ps_set (i := 2) Tx.sc__law_word.nd rfl (Or.inr rfl) h) (se_str (s := " ab9 !$&'()*+,-./0123456789:;<=>?@ABCDEFGHIJKLMNOPQRSTUVWXYZ[]^_`abcdefghijklmnopqrstuvwxyz{|}~") pe_str (by decide +kernel)))
  (s2_one (s_ret (se_bm (fun ho ha => pe_bm PySem.F.plainAttrs_str PySem.F.slot_str_join PySem.F.type_str_join mt_join ho ha) sim_join (SE.sb (se_str (s := "") pe_str (by decide +kernel))) (sab_cons (SE.sb (SF.se (sf_lc (own := [("_law_turn", 3)]) (gt := (gName 3)) rfl Tx.sc__law_word.nd (sim_cN 3) (SI.sib (si_r1 (by rfl) T.b_range (sab_cons (SE.sb (se_var (pv 1))) sab_nil))) (blkOk_by (own := [("_law_turn", 3)]) (N := Tx.N__law_word) (sc := defScope Tx.s__law_word) (by decide +kernel)) (fun _ _ _ _ _ => (pg_name (i := 3) Tx.sc__law_word.nd rfl (Or.inl rfl))) (fun _ _ _ _ _ => ses_nil) (fun _ _ _ _ _ => (se_call (ok__law_choice T) hg hr (by decide) (by exact rfl) (by rfl) (sa_cons (se_var (pv 0)) (sa_cons (se_var (pv 2)) sa_nil))))))) sab_nil)))))
theorem ok__law_any_word (T : Tx.TY K mg base) : CalA true false P w K mg base Tx.cls 4 "_law_any_word" [] 1 F__law_any_word := by
  rw [F__law_any_word_eq]
  refine calA (k := 3) (a := B__law_any_word) T.d__law_any_word T.g__law_any_word Tx.sc__law_any_word (fun _ _ _ _ _ _ us hl => match us, hl with | [_], _ => rfl) rfl ?_
  intro cdv A outer s H E X hX hg hr
  subst hX
  exact (s2_one (s_ret (se_call (ok__law_word T) hg hr (by decide) (by exact rfl) (by rfl) (sa_cons (se_var (pv 0)) (sa_cons (se_call (ok__law_choice T) hg hr (by decide) (by exact rfl) (by rfl) (sa_cons (se_var (pv 0)) (sa_cons (SF.se (sf_lst (sa_cons (se_int pe_int) (sa_cons (se_int pe_int) (sa_cons (se_int pe_int) (sa_cons (se_int pe_int) (sa_cons (se_int pe_int) (sa_cons (se_int pe_int) (sa_cons (se_int pe_int) (sa_cons (se_int pe_int) (sa_cons (se_int pe_int) (sa_cons (se_int pe_int) sa_nil)))))))))))) sa_nil))) sa_nil)))))
theorem ok__law_pattern_text (T : Tx.TY K mg base) : CalA true false P w K mg base Tx.cls 4 "_law_pattern_text" [] 1 F__law_pattern_text := by
  rw [F__law_pattern_text_eq]
  refine calA (k := 3) (a := B__law_pattern_text) T.d__law_pattern_text T.g__law_pattern_text Tx.sc__law_pattern_text (fun _ _ _ _ _ _ us hl => match us, hl with | [_], _ => rfl) rfl ?_
  intro cdv A outer s H E X hX hg hr
  subst hX
  exact (s2_cons (s_set (fun h => ps_set (i := 1) Tx.sc__law_pattern_text.nd rfl (Or.inl rfl) h) (se_call (ok__law_word T) hg hr (by decide) (by exact rfl) (by rfl) (sa_cons (se_var (pv 0)) (sa_cons (se_call (ok__law_choice T) hg hr (by decide) (by exact rfl) (by rfl) (sa_cons (se_var (pv 0)) (sa_cons (SF.se (sf_lst (sa_cons (se_int pe_int) (sa_cons (se_int pe_int) (sa_cons (se_int pe_int) (sa_cons (se_int pe_int) (sa_cons (se_int pe_int) (sa_cons (se_int pe_int) (sa_cons (se_int pe_int) (sa_cons (se_int pe_int) sa_nil)))))))))) sa_nil))) sa_nil))))
  (s2_cons (s_set (fun h => ps_set (i := 2) Tx.sc__law_pattern_text.nd rfl (Or.inl rfl) h) (se_call (ok__law_draw T) hg hr (by decide) (by exact rfl) (by rfl) (sa_cons (se_var (pv 0)) (sa_cons (se_2 (fun h1 h2 => pe_op op_addA h1 h2) sim_add (SE.sb (se_L (fun h => pe_callB call_len (by rfl) T.b_len (by decide +kernel) h) sim_len (sab_cons (SE.sb (se_var (pv 1))) sab_nil))) (SE.sb (se_int pe_int))) sa_nil))))
  (s2_one (s_ret (se_2 (fun h1 h2 => pe_op op_addA h1 h2) sim_add (SE.sb (se_2 (fun h1 h2 => pe_op op_addA h1 h2) sim_add (SE.sb (se_slice (SE.sb (se_var (pv 1))) so_none (so_some (SE.sb (se_var (pv 2)))))) (SE.sb (se_str (s := "#") pe_str (by decide +kernel))))) (SE.sb (se_slice (SE.sb (se_var (pv 1))) (so_some (SE.sb (se_var (pv 2)))) so_none)))))))
theorem ok__law_said (T : Tx.TY K mg base) : SaiA true P w K mg base Tx.cls 1 "_law_said" F__law_said := by
  rw [F__law_said_eq]
  refine saiA (k := 0) (a := "_law_deed") (B := B__law_said) T.d__law_said T.g__law_said Tx.sc__law_said (fun _ _ _ _ _ _ us hl => match us, hl with | [_], _ => rfl) rfl (.inl rfl) (by decide) (by decide) ?_
  intro cdv A outer s H X hX hg hr n R θ thk
  subst hX
  exact (s2_cons (s_set (fun h => ps_set (i := 1) Tx.sc__law_said.nd rfl (Or.inl rfl) h) (SF.se (sf_lst (sa_cons (se_str (s := "told") pe_str (by decide +kernel)) sa_nil))))
  (s2_cons (s_try (anc := anc) (xs := Tx_exs) (i := 2) rfl rfl Tx.sc__law_said.nd rfl rfl takes0 (em_l T.em rfl) (fun W pn xe tk hp => (s2_one (s_drop (SE.sb (thk W pn xe _ _ tk)))))
  (HsA.cons (C := "InvalidPattern") ⟨by rfl, by decide, .inl T.g_InvalidPattern⟩ (fun a dd ob pn hz hf => (s2_one (s_set (fun h => ps_set (i := 1) Tx.sc__law_said.nd rfl (Or.inl rfl) h) (SF.se (sf_lst (sa_cons (se_str (s := "pattern") pe_str (by decide +kernel)) (sa_cons (se_xf (C := "InvalidPattern") (f := "value") T.x_InvalidPattern.xf T.x_InvalidPattern.no hz hf (se_var (pv 2))) sa_nil)))))))
  (HsA.cons (C := "InvalidCount") ⟨by rfl, by decide, .inl T.g_InvalidCount⟩ (fun a dd ob pn hz hf => (s2_one (s_set (fun h => ps_set (i := 1) Tx.sc__law_said.nd rfl (Or.inl rfl) h) (SF.se (sf_lst (sa_cons (se_str (s := "count") pe_str (by decide +kernel)) (sa_cons (se_xf (C := "InvalidCount") (f := "value") T.x_InvalidCount.xf T.x_InvalidCount.no hz hf (se_var (pv 2))) sa_nil)))))))
  (HsA.cons (C := "TooMany") ⟨by rfl, by decide, .inl T.g_TooMany⟩ (fun a dd ob pn hz hf => (s2_one (s_set (fun h => ps_set (i := 1) Tx.sc__law_said.nd rfl (Or.inl rfl) h) (SF.se (sf_lst (sa_cons (se_str (s := "many") pe_str (by decide +kernel)) (sa_cons (se_xf (C := "TooMany") (f := "what") T.x_TooMany.xf T.x_TooMany.no hz hf (se_var (pv 2))) (sa_cons (se_xf (C := "TooMany") (f := "limit") T.x_TooMany.xf T.x_TooMany.no2 hz hf (se_var (pv 2))) sa_nil))))))))
  HsA.nil))))
  (s2_one (s_ret (se_L (fun h => pe_callB (call_repM (cls := Tx.cls) T.sm (hg rfl) hr) (by rfl) T.b_repr (by decide +kernel) h) sim_repM (sab_cons (SE.sb (se_var (pv 1))) sab_nil))))))
theorem ok__law_words_right (T : Tx.TY K mg base) : CalA true false P w K mg base Tx.cls 5 "_law_words_right" [] 1 F__law_words_right := by
  rw [F__law_words_right_eq]
  refine calA (k := 4) (a := B__law_words_right) T.d__law_words_right T.g__law_words_right Tx.sc__law_words_right (fun _ _ _ _ _ _ us hl => match us, hl with | [_], _ => rfl) rfl ?_
  intro cdv A outer s H E X hX hg hr
  subst hX
  exact (s2_cons (s_set (fun h => ps_set (i := 1) Tx.sc__law_words_right.nd rfl (Or.inl rfl) h) (se_call (ok__law_any_word T) hg hr (by decide) (by exact rfl) (by rfl) (sa_cons (se_var (pv 0)) sa_nil)))
  (s2_cons (s_if (SW.st (sw_or (st_2 (fun h1 h2 => pt_cmpR op_isnA h1 h2 (nomark _)) sim_isn (SE.sb (se_call (ok_is_word T) hg hr (by decide) (by exact rfl) (by rfl) (sa_cons (se_var (pv 1)) sa_nil))) (SE.sb (se_bl pe_bl))) (sw_or1 (st_2 (fun h1 h2 => pt_cmpR op_isnA h1 h2 (nomark _)) sim_isn (SE.sb (se_callK0 (ok_is_word_k0_value T) hg hr (by decide) (by exact rfl) (by rfl) (sk_cons (se_var (pv 1)) sk_nil))) (SE.sb (se_bl pe_bl))))))
  (s2_one (s_ret (se_bl pe_bl)))
  s2_nil)
  (s2_cons (s_set (fun h => ps_set (i := 2) Tx.sc__law_words_right.nd rfl (Or.inl rfl) h) (se_call (ok__law_draw T) hg hr (by decide) (by exact rfl) (by rfl) (sa_cons (se_var (pv 0)) (sa_cons (se_2 (fun h1 h2 => pe_op op_addA h1 h2) sim_add (SE.sb (se_L (fun h => pe_callB call_len (by rfl) T.b_len (by decide +kernel) h) sim_len (sab_cons (SE.sb (se_var (pv 1))) sab_nil))) (SE.sb (se_int pe_int))) sa_nil))))
  (s2_cons (s_for PassesOwn.never rfl (si_any (SF.se (sf_lst (sa_cons (se_str (s := "#") pe_str (by decide +kernel)) (sa_cons (se_str (s := "\"") pe_str (by decide +kernel)) (sa_cons (se_str (s := "\\") pe_str (by decide +kernel)) sa_nil)))))) (sg_name (i := 3) (pg_name (i := 3) Tx.sc__law_words_right.nd rfl (Or.inl rfl)))
  (s2_one (s_if (st_2 (fun h1 h2 => pt_cmpR op_isnA h1 h2 (nomark _)) sim_isn (SE.sb (se_call (ok_is_word T) hg hr (by decide) (by exact rfl) (by rfl) (sa_cons (se_2 (fun h1 h2 => pe_op op_addA h1 h2) sim_add (SE.sb (se_2 (fun h1 h2 => pe_op op_addA h1 h2) sim_add (SE.sb (se_slice (SE.sb (se_var (pv 1))) so_none (so_some (SE.sb (se_var (pv 2)))))) (SE.sb (se_var (pv 3))))) (SE.sb (se_slice (SE.sb (se_var (pv 1))) (so_some (SE.sb (se_var (pv 2)))) so_none))) sa_nil))) (SE.sb (se_bl pe_bl)))
  (s2_one (s_ret (se_bl pe_bl)))
  s2_nil)))
  (s2_cons (s_set (fun h => ps_set (i := 4) Tx.sc__law_words_right.nd rfl (Or.inl rfl) h) (se_call (ok__law_word T) hg hr (by decide) (by exact rfl) (by rfl) (sa_cons (se_var (pv 0)) (sa_cons (se_2 (fun h1 h2 => pe_op op_addA h1 h2) sim_add (SE.sb (se_int pe_int)) (SE.sb (se_call (ok__law_draw T) hg hr (by decide) (by exact rfl) (by rfl) (sa_cons (se_var (pv 0)) (sa_cons (se_int pe_int) sa_nil))))) sa_nil))))
  (s2_cons (s_set (fun h => ps_set (i := 5) Tx.sc__law_words_right.nd rfl (Or.inl rfl) h) (SF.se (sf_lst (sa_cons (se_var (pv 4)) (sa_cons (se_non pe_non) (sa_cons (se_int pe_int) (sa_cons (se_int pe_int) (sa_cons (se_bl pe_bl) (sa_cons (SF.se (sf_lst sa_nil)) (sa_cons (SF.se (sf_lst (sa_cons (se_var (pv 1)) sa_nil))) (sa_cons (se_tup (sa_cons (se_var (pv 1)) sa_nil)) (sa_cons (SF.se sf_dict0) (sa_cons (se_makeC2 (C := "Pattern") (ok_Pattern_make1 T) hg hr (by decide) takes0 (by rfl) (sa_cons (se_str (s := "#") pe_str (by decide +kernel)) sa_nil)) (sa_cons (se_bm (fun ho ha => pe_bm PySem.F.plainAttrs_str PySem.F.slot_str_split PySem.F.type_str_split mt_split ho ha) sim_split (SE.sb (se_var (pv 1))) (sab_cons (SE.sb (se_str (s := " ") pe_str (by decide +kernel))) sab_nil)) sa_nil))))))))))))))
  (s2_one (s_ret (se_2 (fun h1 h2 => pe_cmpR (op_eqD hr.units) h1 h2 (nomark _)) sim_eq (SE.sb (se_L (fun h => pe_callB (call_repM (cls := Tx.cls) T.sm (hg rfl) hr) (by rfl) T.b_repr (by decide +kernel) h) sim_repM (sab_cons (SE.sb (SF.se (sf_lc (own := [("_law_thing", 6)]) (gt := (gName 6)) rfl Tx.sc__law_words_right.nd (sim_cN 6) (SI.sib (si_any (se_var (pv 5)))) (blkOk_by (own := [("_law_thing", 6)]) (N := Tx.N__law_words_right) (sc := defScope Tx.s__law_words_right) (by decide +kernel)) (fun _ _ _ _ _ => (pg_name (i := 6) Tx.sc__law_words_right.nd rfl (Or.inl rfl))) (fun _ _ _ _ _ => ses_nil) (fun _ _ _ _ _ => (se_call (ok_is_word T) hg hr (by decide) (by exact rfl) (by rfl) (sa_cons (se_var (pv 6)) sa_nil)))))) sab_nil))) (SE.sb (se_L (fun h => pe_callB (call_repM (cls := Tx.cls) T.sm (hg rfl) hr) (by rfl) T.b_repr (by decide +kernel) h) sim_repM (sab_cons (SE.sb (se_2 (fun h1 h2 => pe_op op_mulA h1 h2) sim_mul (SE.sb (SF.se (sf_lst (sa_cons (se_bl pe_bl) sa_nil)))) (SE.sb (se_L (fun h => pe_callB call_len (by rfl) T.b_len (by decide +kernel) h) sim_len (sab_cons (SE.sb (se_var (pv 5))) sab_nil))))) sab_nil))))))))))))
theorem ok__law_refused_right (T : Tx.TY K mg base) : CalA true false P w K mg base Tx.cls 7 "_law_refused_right" [] 2 F__law_refused_right := by
  rw [F__law_refused_right_eq]
  refine calAL (k := 6) (a := B__law_refused_right) T.d__law_refused_right T.g__law_refused_right Tx.sc__law_refused_right (fun _ _ _ _ _ _ us hl => match us, hl with | [_, _], _ => rfl) rfl ?_
  intro cdv A outer s H E X hcd hX hg hr
  subst hX
  exact (s2_cons (s_set (fun h => ps_set (i := 2) Tx.sc__law_refused_right.nd rfl (Or.inl rfl) h) (se_bm (fun ho ha => pe_bm PySem.F.plainAttrs_str PySem.F.slot_str_join PySem.F.type_str_join mt_join ho ha) sim_join (SE.sb (se_str (s := "") pe_str (by decide +kernel))) (sab_cons (SE.sb (se_bm (fun ho ha => pe_bm PySem.F.plainAttrs_str PySem.F.slot_str_split PySem.F.type_str_split mt_split ho ha) sim_split (SE.sb (se_var (pv 1))) (sab_cons (SE.sb (se_str (s := "#") pe_str (by decide +kernel))) sab_nil))) sab_nil)))
  (s2_cons (s_set (fun h => ps_set (i := 3) Tx.sc__law_refused_right.nd rfl (Or.inl rfl) h) (SF.se (sf_lst (sa_cons (se_non pe_non) (sa_cons (se_int pe_int) (sa_cons (se_bl pe_bl) (sa_cons (SF.se (sf_lst sa_nil)) (sa_cons (SF.se (sf_lst (sa_cons (se_var (pv 1)) sa_nil))) (sa_cons (se_tup (sa_cons (se_var (pv 1)) sa_nil)) (sa_cons (SF.se sf_dict0) (sa_cons (se_str (s := "") pe_str (by decide +kernel)) (sa_cons (se_var (pv 2)) (sa_cons (se_2 (fun h1 h2 => pe_op op_addA h1 h2) sim_add (SE.sb (se_var (pv 1))) (SE.sb (se_str (s := "#") pe_str (by decide +kernel)))) (sa_cons (se_str (s := "##") pe_str (by decide +kernel)) (sa_cons (se_2 (fun h1 h2 => pe_op op_addA h1 h2) sim_add (SE.sb (se_str (s := "#") pe_str (by decide +kernel))) (SE.sb (se_var (pv 1)))) sa_nil)))))))))))))))
  (s2_cons (s_set (fun h => ps_set (i := 3) Tx.sc__law_refused_right.nd rfl (Or.inl rfl) h) (se_2 (fun h1 h2 => pe_op op_addA h1 h2) sim_add (SE.sb (se_var (pv 3))) (SE.sb (SF.se (sf_lst (sa_cons (se_2 (fun h1 h2 => pe_op op_addA h1 h2) sim_add (SE.sb (se_var (pv 1))) (SE.sb (se_str (s := "\"") pe_str (by decide +kernel)))) (sa_cons (se_2 (fun h1 h2 => pe_op op_addA h1 h2) sim_add (SE.sb (se_str (s := "\\") pe_str (by decide +kernel))) (SE.sb (se_var (pv 1)))) sa_nil)))))))
  (s2_cons (s_set (fun h => ps_set (i := 3) Tx.sc__law_refused_right.nd rfl (Or.inl rfl) h) (se_2 (fun h1 h2 => pe_op op_addA h1 h2) sim_add (SE.sb (se_var (pv 3))) (SE.sb (SF.se (sf_lst (sa_cons (se_2 (fun h1 h2 => pe_op op_addA h1 h2) sim_add (SE.sb (se_var (pv 1))) (SE.sb (se_2 (fun h1 h2 => pe_op op_mulA h1 h2) sim_mul (SE.sb (se_str (s := "b") pe_str (by decide +kernel))) (SE.sb (se_2 (fun h1 h2 => pe_op op_sub h1 h2) sim_sub (SE.sb (se_int pe_int)) (SE.sb (se_L (fun h => pe_callB call_len (by rfl) T.b_len (by decide +kernel) h) sim_len (sab_cons (SE.sb (se_var (pv 1))) sab_nil)))))))) (sa_cons (se_2 (fun h1 h2 => pe_op op_addA h1 h2) sim_add (SE.sb (se_var (pv 1))) (SE.sb (se_str (s := "\n") pe_str (by decide +kernel)))) (sa_cons (se_2 (fun h1 h2 => pe_op op_addA h1 h2) sim_add (SE.sb (se_str (s := "\n") pe_str (by decide +kernel))) (SE.sb (se_var (pv 1)))) sa_nil))))))))
  (s2_cons (s_for PassesOwn.never rfl (si_any (se_var (pv 3))) (sg_name (i := 4) (pg_name (i := 4) Tx.sc__law_refused_right.nd rfl (Or.inr rfl)))
  (s2_cons (s_if (st_2 (fun h1 h2 => pt_cmpR (op_neD hr.units) h1 h2 (nomark _)) sim_ne (SE.sb (se_said (j := 0) (mk := "_law_refused_right") (kb := 4) (ok__law_said T) hg hr (by decide) (by decide) (by rfl) (T.tab _ (List.mem_map.mpr ⟨"_law_refused_right", by decide, rfl⟩)) hcd rfl (LamX.lamS_by (sc := defScope Tx.s__law_refused_right) (by decide +kernel)) rfl (fun _ _ _ _ _ => rfl) (fun Ar outer s H E f c' hg hr => (se_makeC2 (C := "Pattern") (ok_Pattern_make1 T) hg hr (by decide) (takes_of rfl rfl rfl rfl) (by rfl) (sa_cons (se_var (pv 4)) sa_nil))))) (SE.sb (se_L (fun h => pe_callB (call_repM (cls := Tx.cls) T.sm (hg rfl) hr) (by rfl) T.b_repr (by decide +kernel) h) sim_repM (sab_cons (SE.sb (SF.se (sf_lst (sa_cons (se_str (s := "pattern") pe_str (by decide +kernel)) (sa_cons (se_var (pv 4)) sa_nil))))) sab_nil))))
  (s2_one (s_ret (se_bl pe_bl)))
  s2_nil)
  (s2_one (s_if (st_2 (fun h1 h2 => pt_cmpR (op_neD hr.units) h1 h2 (nomark _)) sim_ne (SE.sb (se_said (j := 0) (mk := "_law_refused_right") (kb := 4) (ok__law_said T) hg hr (by decide) (by decide) (by rfl) (T.tab _ (List.mem_map.mpr ⟨"_law_refused_right", by decide, rfl⟩)) hcd rfl (LamX.lamS_by (sc := defScope Tx.s__law_refused_right) (by decide +kernel)) rfl (fun _ _ _ _ _ => rfl) (fun Ar outer s H E f c' hg hr => (se_makeK (C := "Pattern") (ok_Pattern_init_k_text T) hg hr (by decide) (takes_of rfl rfl rfl rfl) (by rfl) (sk_cons (se_var (pv 4)) sk_nil))))) (SE.sb (se_L (fun h => pe_callB (call_repM (cls := Tx.cls) T.sm (hg rfl) hr) (by rfl) T.b_repr (by decide +kernel) h) sim_repM (sab_cons (SE.sb (SF.se (sf_lst (sa_cons (se_str (s := "pattern") pe_str (by decide +kernel)) (sa_cons (se_var (pv 4)) sa_nil))))) sab_nil))))
  (s2_one (s_ret (se_bl pe_bl)))
  s2_nil))))
  (s2_one (s_ret (se_bl pe_bl))))))))
theorem ok__law_power (T : Tx.TY K mg base) : CalA true false P w K mg base Tx.cls 1 "_law_power" [] 1 F__law_power := by
  rw [F__law_power_eq]
  refine calA (k := 0) (a := B__law_power) T.d__law_power T.g__law_power Tx.sc__law_power (fun _ _ _ _ _ _ us hl => match us, hl with | [_], _ => rfl) rfl ?_
  intro cdv A outer s H E X hX hg hr
  subst hX
  exact (s2_cons (s_set (fun h => ps_set (i := 1) Tx.sc__law_power.nd rfl (Or.inl rfl) h) (se_int pe_int))
  (s2_cons (s_for PassesOwn.never rfl (si_r1 (by rfl) T.b_range (sab_cons (SE.sb (se_var (pv 0))) sab_nil)) (sg_name (i := 2) (pg_name (i := 2) Tx.sc__law_power.nd rfl (Or.inl rfl)))
  (s2_one (s_set (fun h => ps_set (i := 1) Tx.sc__law_power.nd rfl (Or.inl rfl) h) (se_2 (fun h1 h2 => pe_op op_mulA h1 h2) sim_mul (SE.sb (se_int pe_int)) (SE.sb (se_var (pv 1)))))))
  (s2_one (s_ret (se_var (pv 1))))))
theorem ok__law_no_counts (T : Tx.TY K mg base) : CalA true false P w K mg base Tx.cls 1 "_law_no_counts" [] 0 F__law_no_counts := by
  rw [F__law_no_counts_eq]
  refine calA (k := 0) (a := B__law_no_counts) T.d__law_no_counts T.g__law_no_counts Tx.sc__law_no_counts (fun _ _ _ _ _ _ us hl => match us, hl with | [], _ => rfl) rfl ?_
  intro cdv A outer s H E X hX hg hr
  subst hX
  exact (s2_one (s_ret (SF.se (sf_lst (sa_cons (se_1 (fun h => pe_un un_neg h) sim_neg (SE.sb (se_int pe_int))) (sa_cons (se_bl pe_bl) (sa_cons (se_bl pe_bl) (sa_cons (se_non pe_non) (sa_cons (se_str (s := "3") pe_str (by decide +kernel)) (sa_cons (se_str (s := "") pe_str (by decide +kernel)) (sa_cons (SF.se (sf_lst (sa_cons (se_int pe_int) sa_nil))) (sa_cons (se_tup sa_nil) (sa_cons (SF.se sf_dict0) (sa_cons (se_1 (fun h => pe_un un_neg h) sim_neg (SE.sb (se_2 (fun h1 h2 => pe_op op_pow h1 h2) sim_pow (SE.sb (se_int pe_int)) (SE.sb (se_int pe_int))))) sa_nil))))))))))))))
theorem ok__law_filled_right (T : Tx.TY K mg base) : CalA true false P w K mg base Tx.cls 7 "_law_filled_right" [] 3 F__law_filled_right := by
  rw [F__law_filled_right_eq]
  refine calAL (k := 6) (a := B__law_filled_right) T.d__law_filled_right T.g__law_filled_right Tx.sc__law_filled_right (fun _ _ _ _ _ _ us hl => match us, hl with | [_, _, _], _ => rfl) rfl ?_
  intro cdv A outer s H E X hcd hX hg hr
  subst hX
  exact (s2_cons (s_asg (fun he hg => ps_asg he hg) (se_bm (fun ho ha => pe_bm PySem.F.plainAttrs_str PySem.F.slot_str_split PySem.F.type_str_split mt_split ho ha) sim_split (SE.sb (se_var (pv 2))) (sab_cons (SE.sb (se_str (s := "#") pe_str (by decide +kernel))) sab_nil)) (sg_lst rfl (sgs_cons (sg_name (i := 3) (pg_name (i := 3) Tx.sc__law_filled_right.nd rfl (Or.inl rfl))) (sgs_cons (sg_name (i := 4) (pg_name (i := 4) Tx.sc__law_filled_right.nd rfl (Or.inl rfl))) sgs_nil))))
  (s2_cons (s_set (fun h => ps_set (i := 5) Tx.sc__law_filled_right.nd rfl (Or.inl rfl) h) (se_call (ok__law_power T) hg hr (by decide) (by exact rfl) (by rfl) (sa_cons (se_call (ok__law_draw T) hg hr (by decide) (by exact rfl) (by rfl) (sa_cons (se_var (pv 0)) (sa_cons (se_int pe_int) sa_nil))) sa_nil)))
  (s2_cons (s_for PassesOwn.never rfl (si_any (SF.se (sf_lst (sa_cons (se_int pe_int) (sa_cons (se_int pe_int) (sa_cons (se_int pe_int) (sa_cons (se_int pe_int) (sa_cons (se_int pe_int) (sa_cons (se_int pe_int) (sa_cons (se_var (pv 5)) (sa_cons (se_2 (fun h1 h2 => pe_op op_sub h1 h2) sim_sub (SE.sb (se_var (pv 5))) (SE.sb (se_int pe_int))) (sa_cons (se_2 (fun h1 h2 => pe_op op_addA h1 h2) sim_add (SE.sb (se_2 (fun h1 h2 => pe_op op_mulA h1 h2) sim_mul (SE.sb (se_call (ok__law_draw T) hg hr (by decide) (by exact rfl) (by rfl) (sa_cons (se_var (pv 0)) (sa_cons (se_2 (fun h1 h2 => pe_op op_pow h1 h2) sim_pow (SE.sb (se_int pe_int)) (SE.sb (se_int pe_int))) sa_nil)))) (SE.sb (se_var (pv 5))))) (SE.sb (se_int pe_int))) sa_nil)))))))))))) (sg_name (i := 6) (pg_name (i := 6) Tx.sc__law_filled_right.nd rfl (Or.inl rfl)))
  (s2_cons (s_set (fun h => ps_set (i := 7) Tx.sc__law_filled_right.nd rfl (Or.inl rfl) h) (se_2 (fun h1 h2 => pe_op op_addA h1 h2) sim_add (SE.sb (se_2 (fun h1 h2 => pe_op op_addA h1 h2) sim_add (SE.sb (se_var (pv 3))) (SE.sb (se_L (fun h => pe_callTy (call_or call_str_int SkE.call_str_str) (by rfl) T.b_str (by decide +kernel) h) sim_str (sab_cons (SE.sb (se_var (pv 6))) sab_nil))))) (SE.sb (se_var (pv 4)))))
  (s2_cons (s_if (st_2 (fun h1 h2 => pt_cmpR (op_neD hr.units) h1 h2 (nomark _)) sim_ne (SE.sb (se_L (fun h => pe_callB (call_repM (cls := Tx.cls) T.sm (hg rfl) hr) (by rfl) T.b_repr (by decide +kernel) h) sim_repM (sab_cons (SE.sb (SF.se (sf_lst (sa_cons (se_meth (ok_Pattern_filled T) hg hr (by decide) takes0 (se_var (pv 1)) (sa_cons (se_var (pv 6)) sa_nil)) (sa_cons (se_methK (ok_Pattern_filled_k_number T) hg hr (by decide) takes0 (se_var (pv 1)) (sk_cons (se_var (pv 6)) sk_nil)) sa_nil))))) sab_nil))) (SE.sb (se_L (fun h => pe_callB (call_repM (cls := Tx.cls) T.sm (hg rfl) hr) (by rfl) T.b_repr (by decide +kernel) h) sim_repM (sab_cons (SE.sb (SF.se (sf_lst (sa_cons (se_var (pv 7)) (sa_cons (se_var (pv 7)) sa_nil))))) sab_nil))))
  (s2_one (s_ret (se_bl pe_bl)))
  s2_nil)
  (s2_one (s_if (st_2 (fun h1 h2 => pt_cmpR (op_neD hr.units) h1 h2 (nomark _)) sim_ne (SE.sb (se_L (fun h => pe_callB (call_repM (cls := Tx.cls) T.sm (hg rfl) hr) (by rfl) T.b_repr (by decide +kernel) h) sim_repM (sab_cons (SE.sb (SF.se (sf_lst (sa_cons (se_meth (ok_Pattern_width T) hg hr (by decide) takes0 (se_var (pv 1)) (sa_cons (se_var (pv 6)) sa_nil)) (sa_cons (se_methK (ok_Pattern_width_k_number T) hg hr (by decide) takes0 (se_var (pv 1)) (sk_cons (se_var (pv 6)) sk_nil)) sa_nil))))) sab_nil))) (SE.sb (se_L (fun h => pe_callB (call_repM (cls := Tx.cls) T.sm (hg rfl) hr) (by rfl) T.b_repr (by decide +kernel) h) sim_repM (sab_cons (SE.sb (se_2 (fun h1 h2 => pe_op op_mulA h1 h2) sim_mul (SE.sb (SF.se (sf_lst (sa_cons (se_L (fun h => pe_callB call_len (by rfl) T.b_len (by decide +kernel) h) sim_len (sab_cons (SE.sb (se_var (pv 7))) sab_nil)) sa_nil)))) (SE.sb (se_int pe_int)))) sab_nil))))
  (s2_one (s_ret (se_bl pe_bl)))
  s2_nil)))))
  (s2_cons (s_for PassesOwn.never rfl (si_any (se_call0 (ok__law_no_counts T) hg hr (by decide) (by exact rfl) (by rfl))) (sg_name (i := 8) (pg_name (i := 8) Tx.sc__law_filled_right.nd rfl (Or.inr rfl)))
  (s2_cons (s_set (fun h => ps_set (i := 7) Tx.sc__law_filled_right.nd rfl (Or.inl rfl) h) (se_L (fun h => pe_callB (call_repM (cls := Tx.cls) T.sm (hg rfl) hr) (by rfl) T.b_repr (by decide +kernel) h) sim_repM (sab_cons (SE.sb (SF.se (sf_lst (sa_cons (se_str (s := "count") pe_str (by decide +kernel)) (sa_cons (se_var (pv 8)) sa_nil))))) sab_nil)))
  (s2_cons (s_if (st_2 (fun h1 h2 => pt_cmpR (op_neD hr.units) h1 h2 (nomark _)) sim_ne (SE.sb (se_said (j := 1) (mk := "_law_filled_right") (kb := 3) (ok__law_said T) hg hr (by decide) (by decide) (by rfl) (T.tab _ (List.mem_map.mpr ⟨"_law_filled_right", by decide, rfl⟩)) hcd rfl (LamX.lamS_by (sc := defScope Tx.s__law_filled_right) (by decide +kernel)) rfl (fun _ _ _ _ _ => rfl) (fun Ar outer s H E f c' hg hr => (se_meth (ok_Pattern_filled T) hg hr (by decide) (takes_of rfl rfl rfl rfl) (se_var (pv 1)) (sa_cons (se_var (pv 8)) sa_nil))))) (SE.sb (se_var (pv 7))))
  (s2_one (s_ret (se_bl pe_bl)))
  s2_nil)
  (s2_one (s_if (st_2 (fun h1 h2 => pt_cmpR (op_neD hr.units) h1 h2 (nomark _)) sim_ne (SE.sb (se_said (j := 1) (mk := "_law_filled_right") (kb := 4) (ok__law_said T) hg hr (by decide) (by decide) (by rfl) (T.tab _ (List.mem_map.mpr ⟨"_law_filled_right", by decide, rfl⟩)) hcd rfl (LamX.lamS_by (sc := defScope Tx.s__law_filled_right) (by decide +kernel)) rfl (fun _ _ _ _ _ => rfl) (fun Ar outer s H E f c' hg hr => (se_meth (ok_Pattern_width T) hg hr (by decide) (takes_of rfl rfl rfl rfl) (se_var (pv 1)) (sa_cons (se_var (pv 8)) sa_nil))))) (SE.sb (se_var (pv 7))))
  (s2_one (s_ret (se_bl pe_bl)))
  s2_nil)))))
  (s2_one (s_ret (se_bl pe_bl)))))))
theorem ok__law_added_right (T : Tx.TY K mg base) : CalA true false P w K mg base Tx.cls 8 "_law_added_right" [] 3 F__law_added_right := by
  rw [F__law_added_right_eq]
  refine calAL (k := 7) (a := B__law_added_right) T.d__law_added_right T.g__law_added_right Tx.sc__law_added_right (fun _ _ _ _ _ _ us hl => match us, hl with | [_, _, _], _ => rfl) rfl ?_
  intro cdv A outer s H E X hcd hX hg hr
  subst hX
  exact (s2_cons (s_set (fun h => ps_set (i := 3) Tx.sc__law_added_right.nd rfl (Or.inl rfl) h) (se_2 (fun h1 h2 => pe_op op_sub h1 h2) sim_sub (SE.sb (se_int pe_int)) (SE.sb (se_L (fun h => pe_callB call_len (by rfl) T.b_len (by decide +kernel) h) sim_len (sab_cons (SE.sb (se_var (pv 2))) sab_nil)))))
  (s2_cons (s_for PassesOwn.never rfl (si_any (SF.se (sf_lst (sa_cons (se_int pe_int) (sa_cons (se_var (pv 3)) (sa_cons (se_call (ok__law_draw T) hg hr (by decide) (by exact rfl) (by rfl) (sa_cons (se_var (pv 0)) (sa_cons (se_2 (fun h1 h2 => pe_op op_addA h1 h2) sim_add (SE.sb (se_var (pv 3))) (SE.sb (se_int pe_int))) sa_nil))) sa_nil)))))) (sg_name (i := 4) (pg_name (i := 4) Tx.sc__law_added_right.nd rfl (Or.inr rfl)))
  (s2_cons (s_par (fun h => ps_par (i := 5) (j := 6) (by rfl) Tx.sc__law_added_right.nd rfl rfl (by decide) rfl rfl h (by rfl)) (sa_cons (se_binA (opA_addL (C := "Pattern") (ok_Pattern_add T) T.sf_Pattern T.ra_Pattern clsNo hg hr (by decide) takes0) (se_var (pv 1)) (se_var (pv 4))) (sa_cons (se_binA (opA_addR (C := "Pattern") (ok_Pattern_radd T) T.m_Pattern_add T.sf_Pattern T.sb_Pattern clsNo hg hr (by decide) takes0) (se_var (pv 4)) (se_var (pv 1))) sa_nil)))
  (s2_cons (s_if (SW.st (sw_or (st_2 (fun h1 h2 => pt_cmpR (op_neD hr.units) h1 h2 (nomark _)) sim_ne (SE.sb (se_ty1 (op1_str (C := "Pattern") (ok_Pattern_str T) hg hr (by decide) (by exact rfl)) (by rfl) T.b_str (by decide +kernel) (se_var (pv 5)))) (SE.sb (se_2 (fun h1 h2 => pe_op op_addA h1 h2) sim_add (SE.sb (se_var (pv 2))) (SE.sb (se_2 (fun h1 h2 => pe_op op_mulA h1 h2) sim_mul (SE.sb (se_str (s := " ") pe_str (by decide +kernel))) (SE.sb (se_var (pv 4)))))))) (sw_or1 (st_2 (fun h1 h2 => pt_cmpR (op_neD hr.units) h1 h2 (nomark _)) sim_ne (SE.sb (se_ty1 (op1_str (C := "Pattern") (ok_Pattern_str T) hg hr (by decide) (by exact rfl)) (by rfl) T.b_str (by decide +kernel) (se_var (pv 6)))) (SE.sb (se_2 (fun h1 h2 => pe_op op_addA h1 h2) sim_add (SE.sb (se_2 (fun h1 h2 => pe_op op_mulA h1 h2) sim_mul (SE.sb (se_str (s := " ") pe_str (by decide +kernel))) (SE.sb (se_var (pv 4))))) (SE.sb (se_var (pv 2)))))))))
  (s2_one (s_ret (se_bl pe_bl)))
  s2_nil)
  (s2_cons (s_if (SW.st (sw_or (st_2 (fun h1 h2 => pt_cmpR (op_neD hr.units) h1 h2 (nomark _)) sim_ne (SE.sb (se_blt1 (op1_len (C := "Pattern") (ok_Pattern_len T) hg hr (by decide) (by exact rfl)) (by rfl) T.b_len (by decide +kernel) (se_var (pv 5)))) (SE.sb (se_2 (fun h1 h2 => pe_op op_addA h1 h2) sim_add (SE.sb (se_blt1 (op1_len (C := "Pattern") (ok_Pattern_len T) hg hr (by decide) (by exact rfl)) (by rfl) T.b_len (by decide +kernel) (se_var (pv 1)))) (SE.sb (se_var (pv 4)))))) (sw_or1 (st_cmpA (opA_neG (C := "Pattern") (ok_Pattern_eq T) T.nn_Pattern T.mo_Pattern clsNo T.nf_Pattern hg hr (by decide) (by exact rfl)) (se_var (pv 5)) (se_makeC2 (C := "Pattern") (ok_Pattern_make1 T) hg hr (by decide) takes0 (by rfl) (sa_cons (se_2 (fun h1 h2 => pe_op op_addA h1 h2) sim_add (SE.sb (se_var (pv 2))) (SE.sb (se_2 (fun h1 h2 => pe_op op_mulA h1 h2) sim_mul (SE.sb (se_str (s := " ") pe_str (by decide +kernel))) (SE.sb (se_var (pv 4)))))) sa_nil))))))
  (s2_one (s_ret (se_bl pe_bl)))
  s2_nil)
  (s2_one (s_if (st_2 (fun h1 h2 => pt_cmpR (op_neD hr.units) h1 h2 (nomark _)) sim_ne (SE.sb (se_cmpA (opA_eqG (eqtab_cons (C := "Pattern") (ok_Pattern_eq T) rfl T.sb_Pattern clsNo T.nf_Pattern hg hr (by decide) (by exact rfl) trivial) hr) (se_var (pv 5)) (se_var (pv 1)))) (SE.sb (se_2 (fun h1 h2 => pe_cmpR (op_eqD hr.units) h1 h2 (nomark _)) sim_eq (SE.sb (se_var (pv 4))) (SE.sb (se_int pe_int)))))
  (s2_one (s_ret (se_bl pe_bl)))
  s2_nil))))))
  (s2_cons (s_for PassesOwn.never rfl (si_any (SF.se (sf_lst (sa_cons (se_2 (fun h1 h2 => pe_op op_addA h1 h2) sim_add (SE.sb (se_var (pv 3))) (SE.sb (se_int pe_int))) (sa_cons (se_2 (fun h1 h2 => pe_op op_addA h1 h2) sim_add (SE.sb (se_var (pv 3))) (SE.sb (se_int pe_int))) (sa_cons (se_2 (fun h1 h2 => pe_op op_pow h1 h2) sim_pow (SE.sb (se_int pe_int)) (SE.sb (se_int pe_int))) sa_nil)))))) (sg_name (i := 4) (pg_name (i := 4) Tx.sc__law_added_right.nd rfl (Or.inr rfl)))
  (s2_cons (s_set (fun h => ps_set (i := 7) Tx.sc__law_added_right.nd rfl (Or.inl rfl) h) (se_L (fun h => pe_callB (call_repM (cls := Tx.cls) T.sm (hg rfl) hr) (by rfl) T.b_repr (by decide +kernel) h) sim_repM (sab_cons (SE.sb (SF.se (sf_lst (sa_cons (se_str (s := "many") pe_str (by decide +kernel)) (sa_cons (se_str (s := "characters") pe_str (by decide +kernel)) (sa_cons (se_int pe_int) sa_nil)))))) sab_nil)))
  (s2_cons (s_if (st_2 (fun h1 h2 => pt_cmpR (op_neD hr.units) h1 h2 (nomark _)) sim_ne (SE.sb (se_said (j := 2) (mk := "_law_added_right") (kb := 5) (ok__law_said T) hg hr (by decide) (by decide) (by rfl) (T.tab _ (List.mem_map.mpr ⟨"_law_added_right", by decide, rfl⟩)) hcd rfl (LamX.lamS_by (sc := defScope Tx.s__law_added_right) (by decide +kernel)) rfl (fun _ _ _ _ _ => rfl) (fun Ar outer s H E f c' hg hr => (se_binA (opA_addL (C := "Pattern") (ok_Pattern_add T) T.sf_Pattern T.ra_Pattern clsNo hg hr (by decide) (takes_of rfl rfl rfl rfl)) (se_var (pv 1)) (se_var (pv 4)))))) (SE.sb (se_var (pv 7))))
  (s2_one (s_ret (se_bl pe_bl)))
  s2_nil)
  (s2_one (s_if (st_2 (fun h1 h2 => pt_cmpR (op_neD hr.units) h1 h2 (nomark _)) sim_ne (SE.sb (se_said (j := 2) (mk := "_law_added_right") (kb := 5) (ok__law_said T) hg hr (by decide) (by decide) (by rfl) (T.tab _ (List.mem_map.mpr ⟨"_law_added_right", by decide, rfl⟩)) hcd rfl (LamX.lamS_by (sc := defScope Tx.s__law_added_right) (by decide +kernel)) rfl (fun _ _ _ _ _ => rfl) (fun Ar outer s H E f c' hg hr => (se_binA (opA_addR (C := "Pattern") (ok_Pattern_radd T) T.m_Pattern_add T.sf_Pattern T.sb_Pattern clsNo hg hr (by decide) (takes_of rfl rfl rfl rfl)) (se_var (pv 4)) (se_var (pv 1)))))) (SE.sb (se_var (pv 7))))
  (s2_one (s_ret (se_bl pe_bl)))
  s2_nil)))))
  (s2_cons (s_for PassesOwn.never rfl (si_any (se_call0 (ok__law_no_counts T) hg hr (by decide) (by exact rfl) (by rfl))) (sg_name (i := 8) (pg_name (i := 8) Tx.sc__law_added_right.nd rfl (Or.inr rfl)))
  (s2_cons (s_set (fun h => ps_set (i := 7) Tx.sc__law_added_right.nd rfl (Or.inl rfl) h) (se_L (fun h => pe_callB (call_repM (cls := Tx.cls) T.sm (hg rfl) hr) (by rfl) T.b_repr (by decide +kernel) h) sim_repM (sab_cons (SE.sb (SF.se (sf_lst (sa_cons (se_str (s := "count") pe_str (by decide +kernel)) (sa_cons (se_var (pv 8)) sa_nil))))) sab_nil)))
  (s2_cons (s_if (st_2 (fun h1 h2 => pt_cmpR (op_neD hr.units) h1 h2 (nomark _)) sim_ne (SE.sb (se_said (j := 2) (mk := "_law_added_right") (kb := 5) (ok__law_said T) hg hr (by decide) (by decide) (by rfl) (T.tab _ (List.mem_map.mpr ⟨"_law_added_right", by decide, rfl⟩)) hcd rfl (LamX.lamS_by (sc := defScope Tx.s__law_added_right) (by decide +kernel)) rfl (fun _ _ _ _ _ => rfl) (fun Ar outer s H E f c' hg hr => (se_binA (opA_addL (C := "Pattern") (ok_Pattern_add T) T.sf_Pattern T.ra_Pattern clsNo hg hr (by decide) (takes_of rfl rfl rfl rfl)) (se_var (pv 1)) (se_var (pv 8)))))) (SE.sb (se_var (pv 7))))
  (s2_one (s_ret (se_bl pe_bl)))
  s2_nil)
  (s2_one (s_if (st_2 (fun h1 h2 => pt_cmpR (op_neD hr.units) h1 h2 (nomark _)) sim_ne (SE.sb (se_said (j := 2) (mk := "_law_added_right") (kb := 5) (ok__law_said T) hg hr (by decide) (by decide) (by rfl) (T.tab _ (List.mem_map.mpr ⟨"_law_added_right", by decide, rfl⟩)) hcd rfl (LamX.lamS_by (sc := defScope Tx.s__law_added_right) (by decide +kernel)) rfl (fun _ _ _ _ _ => rfl) (fun Ar outer s H E f c' hg hr => (se_binA (opA_addR (C := "Pattern") (ok_Pattern_radd T) T.m_Pattern_add T.sf_Pattern T.sb_Pattern clsNo hg hr (by decide) (takes_of rfl rfl rfl rfl)) (se_var (pv 8)) (se_var (pv 1)))))) (SE.sb (se_var (pv 7))))
  (s2_one (s_ret (se_bl pe_bl)))
  s2_nil)))))
  (s2_one (s_ret (se_bl pe_bl)))))))
theorem ok__law_right (T : Tx.TY K mg base) : CalA true false P w K mg base Tx.cls 9 "_law_right" [] 1 F__law_right := by
  rw [F__law_right_eq]
  refine calA (k := 8) (a := B__law_right) T.d__law_right T.g__law_right Tx.sc__law_right (fun _ _ _ _ _ _ us hl => match us, hl with | [_], _ => rfl) rfl ?_
  intro cdv A outer s H E X hX hg hr
  subst hX
  exact (s2_cons (s_set (fun h => ps_set (i := 1) Tx.sc__law_right.nd rfl (Or.inl rfl) h) (se_call (ok__law_pattern_text T) hg hr (by decide) (by exact rfl) (by rfl) (sa_cons (se_var (pv 0)) sa_nil)))
  (s2_cons (s_asg (fun he hg => ps_asg he hg) (se_tup (sa_cons (se_makeC2 (C := "Pattern") (ok_Pattern_make1 T) hg hr (by decide) takes0 (by rfl) (sa_cons (se_var (pv 1)) sa_nil)) (sa_cons (se_makeK (C := "Pattern") (ok_Pattern_init_k_text T) hg hr (by decide) takes0 (by rfl) (sk_cons (se_var (pv 1)) sk_nil)) sa_nil))) (sg_tup rfl (sgs_cons (sg_name (i := 2) (pg_name (i := 2) Tx.sc__law_right.nd rfl (Or.inr rfl))) (sgs_cons (sg_name (i := 3) (pg_name (i := 3) Tx.sc__law_right.nd rfl (Or.inl rfl))) sgs_nil))))
  (s2_cons (s_if (SW.st (sw_or (st_2 (fun h1 h2 => pt_cmpR (op_neD hr.units) h1 h2 (nomark _)) sim_ne (SE.sb (se_L (fun h => pe_callB (call_repA (hg rfl) hr) (by rfl) T.b_repr (by decide +kernel) h) sim_rep (sab_cons (SE.sb (SF.se (sf_lst (sa_cons (se_ty1 (op1_str (C := "Pattern") (ok_Pattern_str T) hg hr (by decide) (by exact rfl)) (by rfl) T.b_str (by decide +kernel) (se_var (pv 2))) (sa_cons (se_blt1 (op1_len (C := "Pattern") (ok_Pattern_len T) hg hr (by decide) (by exact rfl)) (by rfl) T.b_len (by decide +kernel) (se_var (pv 2))) sa_nil))))) sab_nil))) (SE.sb (se_L (fun h => pe_callB (call_repA (hg rfl) hr) (by rfl) T.b_repr (by decide +kernel) h) sim_rep (sab_cons (SE.sb (SF.se (sf_lst (sa_cons (se_var (pv 1)) (sa_cons (se_2 (fun h1 h2 => pe_op op_sub h1 h2) sim_sub (SE.sb (se_L (fun h => pe_callB call_len (by rfl) T.b_len (by decide +kernel) h) sim_len (sab_cons (SE.sb (se_var (pv 1))) sab_nil))) (SE.sb (se_int pe_int))) sa_nil))))) sab_nil)))) (sw_or (st_cmpA (opA_neG (C := "Pattern") (ok_Pattern_eq T) T.nn_Pattern T.mo_Pattern clsNo T.nf_Pattern hg hr (by decide) (by exact rfl)) (se_var (pv 2)) (se_var (pv 3))) (sw_or1 (st_not (st_cmpA (opA_eqG (eqtab_cons (C := "Pattern") (ok_Pattern_eq T) rfl T.sb_Pattern clsNo T.nf_Pattern hg hr (by decide) (by exact rfl) trivial) hr) (se_var (pv 2)) (se_var (pv 3))))))))
  (s2_one (s_ret (se_bl pe_bl)))
  s2_nil)
  (s2_cons (s_set (fun h => ps_set (i := 4) Tx.sc__law_right.nd rfl (Or.inl rfl) h) (SF.se (sf_lst (sa_cons (se_var (pv 1)) (sa_cons (se_non pe_non) (sa_cons (se_int pe_int) (sa_cons (se_tup (sa_cons (se_var (pv 1)) sa_nil)) (sa_cons (se_makeC2 (C := "Pattern") (ok_Pattern_make1 T) hg hr (by decide) takes0 (by rfl) (sa_cons (se_if (st_2 (fun h1 h2 => pt_cmpR (op_neD hr.units) h1 h2 (nomark _)) sim_ne (SE.sb (se_var (pv 1))) (SE.sb (se_str (s := "#") pe_str (by decide +kernel)))) (se_str (s := "#") pe_str (by decide +kernel)) (se_str (s := "# ") pe_str (by decide +kernel))) sa_nil)) (sa_cons (SF.se (sf_lst (sa_cons (se_var (pv 2)) sa_nil))) sa_nil)))))))))
  (s2_cons (s_if (SW.st (sw_or (st_tru (SE.sb (se_L (fun h => pe_callB (cr_any rfl) (by rfl) T.b_any (by decide +kernel) h) sim_any (sab_cons (SE.sb (SF.se (sf_lc (own := [("_law_other", 5)]) (gt := (gName 5)) rfl Tx.sc__law_right.nd (sim_cN 5) (SI.sib (si_any (se_var (pv 4)))) (blkOk_by (own := [("_law_other", 5)]) (N := Tx.N__law_right) (sc := defScope Tx.s__law_right) (by decide +kernel)) (fun _ _ _ _ _ => (pg_name (i := 5) Tx.sc__law_right.nd rfl (Or.inl rfl))) (fun _ _ _ _ _ => ses_nil) (fun _ _ _ _ _ => (se_cmpA (opA_eqG (eqtab_cons (C := "Pattern") (ok_Pattern_eq T) rfl T.sb_Pattern clsNo T.nf_Pattern hg hr (by decide) (by exact rfl) trivial) hr) (se_var (pv 2)) (se_var (pv 5))))))) sab_nil))) (by intro _; rfl)) (sw_or1 (st_not (st_tru (SE.sb (se_L (fun h => pe_callB (cr_all rfl) (by rfl) T.b_all (by decide +kernel) h) sim_all (sab_cons (SE.sb (SF.se (sf_lc (own := [("_law_other", 5)]) (gt := (gName 5)) rfl Tx.sc__law_right.nd (sim_cN 5) (SI.sib (si_any (se_var (pv 4)))) (blkOk_by (own := [("_law_other", 5)]) (N := Tx.N__law_right) (sc := defScope Tx.s__law_right) (by decide +kernel)) (fun _ _ _ _ _ => (pg_name (i := 5) Tx.sc__law_right.nd rfl (Or.inl rfl))) (fun _ _ _ _ _ => ses_nil) (fun _ _ _ _ _ => (se_cmpA (opA_neG (C := "Pattern") (ok_Pattern_eq T) T.nn_Pattern T.mo_Pattern clsNo T.nf_Pattern hg hr (by decide) (by exact rfl)) (se_var (pv 2)) (se_var (pv 5))))))) sab_nil))) (by intro _; rfl))))))
  (s2_one (s_ret (se_bl pe_bl)))
  s2_nil)
  (s2_cons (s_if (SW.st (sw_or (st_not (st_tru (SE.sb (se_call (ok__law_refused_right T) hg hr (by decide) (by exact rfl) (by rfl) (sa_cons (se_var (pv 0)) (sa_cons (se_var (pv 1)) sa_nil)))) (by intro _; rfl))) (sw_or1 (st_not (st_tru (SE.sb (se_call (ok__law_filled_right T) hg hr (by decide) (by exact rfl) (by rfl) (sa_cons (se_var (pv 0)) (sa_cons (se_var (pv 2)) (sa_cons (se_var (pv 1)) sa_nil))))) (by intro _; rfl))))))
  (s2_one (s_ret (se_bl pe_bl)))
  s2_nil)
  (s2_one (s_ret (se_and (se_call (ok__law_added_right T) hg hr (by decide) (by exact rfl) (by rfl) (sa_cons (se_var (pv 0)) (sa_cons (se_var (pv 2)) (sa_cons (se_var (pv 1)) sa_nil)))) (se_and (se_2 (fun h1 h2 => pe_cmpR (op_eqD hr.units) h1 h2 (nomark _)) sim_eq (SE.sb (se_ty1 (op1_str (C := "Pattern") (ok_Pattern_str T) hg hr (by decide) (by exact rfl)) (by rfl) T.b_str (by decide +kernel) (se_var (pv 2)))) (SE.sb (se_var (pv 1)))) (se_one (se_call (ok__law_words_right T) hg hr (by decide) (by exact rfl) (by rfl) (sa_cons (se_var (pv 0)) sa_nil)))))))))))))
theorem by_law (T : Tx.TY K mg base) : By0 true P w K mg base Tx.cls 9 (He.ga K "law") Tx.N_law "law" (defBody Tx.s_law) (defScope Tx.s_law) B_law := by
  intro cdv A outer s H E X hX hg hr
  subst hX
  exact (s2_one (s_ret (se_L (fun h => pe_callB (cr_all rfl) (by rfl) T.b_all (by decide +kernel) h) sim_all (sab_cons (SE.sb (SF.se (sf_lc (own := [("_law_k", 1)]) (gt := (gName 1)) rfl Tx.sc_law.nd (sim_cN 1) (SI.sib (si_r1 (by rfl) T.b_range (sab_cons (SE.sb (se_L (fun h => pe_callB (call_max2 rfl) (by rfl) T.b_max (by decide +kernel) h) sim_max2 (sab_cons (SE.sb (se_int pe_int)) (sab_cons (SE.sb (se_L (fun h => pe_callB (call_min2 rfl) (by rfl) T.b_min (by decide +kernel) h) sim_min2 (sab_cons (SE.sb (se_int pe_int)) (sab_cons (SE.sb (se_L (fun h => pe_callB call_len (by rfl) T.b_len (by decide +kernel) h) sim_len (sab_cons (SE.sb (se_var (pv 0))) sab_nil))) sab_nil)))) sab_nil)))) sab_nil))) (blkOk_by (own := [("_law_k", 1)]) (N := Tx.N_law) (sc := defScope Tx.s_law) (by decide +kernel)) (fun _ _ _ _ _ => (pg_name (i := 1) Tx.sc_law.nd rfl (Or.inl rfl))) (fun _ _ _ _ _ => ses_nil) (fun _ _ _ _ _ => (se_call (ok__law_right T) hg hr (by decide) (by exact rfl) (by rfl) (sa_cons (se_call (ok__law_rng T) hg hr (by decide) (by exact rfl) (by rfl) (sa_cons (se_var (pv 0)) (sa_cons (se_var (pv 1)) sa_nil))) sa_nil)))))) sab_nil))))
end
end Wk
set_option maxHeartbeats 4000000
namespace AM
open PySem PySem.Spec PyProof.Rows L2 Eb
@[simp] theorem q_hash : q "#" = [35] := by decide
@[simp] theorem q_nil : q "" = [] := by decide
section
variable {m : Mem} {P : PX} {Fx : FX}
theorem is_character_str {c : Nat} (h : P (.bl (okc c)) m) : F_is_character [.str [c]] m P Fx := by
  unfold okc at h
  simp [fB, asS, asL, asX, asD, asI, tyT, subC, anc, itm, flatT, eqT, getI, nrm, Shp, wipeA, List.lookup, isTy, strs', putT, F_is_character_eq, B_is_character]
  have e34 : ((34 : Int) == (c : Int)) = (c == 34) := by rw [Bool.eq_iff_iff]; simp [fB, asS, asL, asX, asD, asI, tyT, subC, anc, itm, flatT, eqT, getI, nrm, Shp, wipeA, List.lookup, isTy, strs', putT]; omega
  have e35 : ((35 : Int) == (c : Int)) = (c == 35) := by rw [Bool.eq_iff_iff]; simp [fB, asS, asL, asX, asD, asI, tyT, subC, anc, itm, flatT, eqT, getI, nrm, Shp, wipeA, List.lookup, isTy, strs', putT]; omega
  have e37 : ((37 : Int) == (c : Int)) = (c == 37) := by rw [Bool.eq_iff_iff]; simp [fB, asS, asL, asX, asD, asI, tyT, subC, anc, itm, flatT, eqT, getI, nrm, Shp, wipeA, List.lookup, isTy, strs', putT]; omega
  have e92 : ((92 : Int) == (c : Int)) = (c == 92) := by rw [Bool.eq_iff_iff]; simp [fB, asS, asL, asX, asD, asI, tyT, subC, anc, itm, flatT, eqT, getI, nrm, Shp, wipeA, List.lookup, isTy, strs', putT]; omega
  by_cases h1 : 32 ≤ c
  · by_cases h2 : c ≤ 126
    · simp [fB, asS, asL, asX, asD, asI, tyT, subC, anc, itm, flatT, eqT, getI, nrm, Shp, wipeA, List.lookup, isTy, strs', putT, h1, h2] at h
      have a1 : (32 : Int) ≤ c := by omega
      have a2 : (c : Int) ≤ 126 := by omega
      simpa [fB, asS, asL, asX, asD, asI, tyT, subC, anc, itm, flatT, eqT, getI, nrm, Shp, wipeA, List.lookup, isTy, strs', putT, a1, a2, e34, e35, e37, e92, Bool.and_assoc] using h
    · simp [fB, asS, asL, asX, asD, asI, tyT, subC, anc, itm, flatT, eqT, getI, nrm, Shp, wipeA, List.lookup, isTy, strs', putT, h1, h2] at h
      have a1 : (32 : Int) ≤ c := by omega
      have a2 : ¬ (c : Int) ≤ 126 := by omega
      simpa [fB, asS, asL, asX, asD, asI, tyT, subC, anc, itm, flatT, eqT, getI, nrm, Shp, wipeA, List.lookup, isTy, strs', putT, a1, a2] using h
  · simp [fB, asS, asL, asX, asD, asI, tyT, subC, anc, itm, flatT, eqT, getI, nrm, Shp, wipeA, List.lookup, isTy, strs', putT, h1] at h
    have a1 : ¬ (32 : Int) ≤ c := by omega
    simpa [fB, asS, asL, asX, asD, asI, tyT, subC, anc, itm, flatT, eqT, getI, nrm, Shp, wipeA, List.lookup, isTy, strs', putT, a1] using h
theorem is_word_str {l : List Nat} (h : P (.bl (decide (l.length ≤ 20) && l.all okc)) m) : F_is_word [.str l] m P Fx := by
  simp [fB, asS, asL, asX, asD, asI, tyT, subC, anc, itm, flatT, eqT, getI, nrm, Shp, wipeA, List.lookup, isTy, strs', putT, F_is_word_eq, B_is_word]
  by_cases hl : l.length ≤ 20
  · have a1 : ¬ (20 : Int) < l.length := by omega
    simp [fB, asS, asL, asX, asD, asI, tyT, subC, anc, itm, flatT, eqT, getI, nrm, Shp, wipeA, List.lookup, isTy, strs', putT, hl] at h
    simp [fB, asS, asL, asX, asD, asI, tyT, subC, anc, itm, flatT, eqT, getI, nrm, Shp, wipeA, List.lookup, isTy, strs', putT, a1]
    refine lcM l (fun c => .str [c]) (fun c => .bl (okc c)) (by simp [fB, asS, asL, asX, asD, asI, tyT, subC, anc, itm, flatT, eqT, getI, nrm, Shp, wipeA, List.lookup, isTy, strs', putT]) (fun c hc Y hy => ?_) (Nat.le_trans hl (by decide)) ?_
    · simp [fB, asS, asL, asX, asD, asI, tyT, subC, anc, itm, flatT, eqT, getI, nrm, Shp, wipeA, List.lookup, isTy, strs', putT]
      exact is_character_str hy
    · simpa [fB, asS, asL, asX, asD, asI, tyT, subC, anc, itm, flatT, eqT, getI, nrm, Shp, wipeA, List.lookup, isTy, strs', putT] using h
  · have a1 : (20 : Int) < l.length := by omega
    simp [fB, asS, asL, asX, asD, asI, tyT, subC, anc, itm, flatT, eqT, getI, nrm, Shp, wipeA, List.lookup, isTy, strs', putT, hl] at h
    simpa [fB, asS, asL, asX, asD, asI, tyT, subC, anc, itm, flatT, eqT, getI, nrm, Shp, wipeA, List.lookup, isTy, strs', putT, a1] using h
theorem is_word_wd {l : List Nat} (w : Wd l) (h : P (.bl true) m) : F_is_word [.str l] m P Fx := is_word_str (by simpa [fB, asS, asL, asX, asD, asI, tyT, subC, anc, itm, flatT, eqT, getI, nrm, Shp, wipeA, List.lookup, isTy, strs', putT, w.len, w.all] using h)
theorem is_word_pt {p : Pt} (h : P (.bl false) m) : F_is_word [p.t] m P Fx := by
  simp [fB, asS, asL, asX, asD, asI, tyT, subC, anc, itm, flatT, eqT, getI, nrm, Shp, wipeA, List.lookup, isTy, strs', putT, F_is_word_eq, B_is_word, Pt.t]
  exact h
theorem flt_pt {p : Pt} (w : p.Ok) : p.txt.filter (fun c => c != 35) = p.a ++ p.b := by
  unfold Pt.txt
  rw [List.filter_append, List.filter_cons]
  have fa : ∀ l : List Nat, l.all okc = true → l.filter (fun c => c != 35) = l := fun l hl => List.filter_eq_self.mpr fun c hc => by
    have := okc_ne (List.all_eq_true.mp hl c hc)
    simpa [fB, asS, asL, asX, asD, asI, tyT, subC, anc, itm, flatT, eqT, getI, nrm, Shp, wipeA, List.lookup, isTy, strs', putT] using this
  rw [fa _ w.a, fa _ w.b]
  simp [fB, asS, asL, asX, asD, asI, tyT, subC, anc, itm, flatT, eqT, getI, nrm, Shp, wipeA, List.lookup, isTy, strs', putT]
theorem is_pattern_text_pt {p : Pt} (w : p.Ok) (h : P (.bl true) m) : F_is_pattern_text [.str p.txt] m P Fx := by
  have hl : p.txt.length = p.a.length + p.b.length + 1 := by simp [fB, asS, asL, asX, asD, asI, tyT, subC, anc, itm, flatT, eqT, getI, nrm, Shp, wipeA, List.lookup, isTy, strs', putT, Pt.txt]; omega
  have hw := w.len
  have a1 : ¬ (20 : Int) < p.txt.length := by omega
  simp [fB, asS, asL, asX, asD, asI, tyT, subC, anc, itm, flatT, eqT, getI, nrm, Shp, wipeA, List.lookup, isTy, strs', putT, F_is_pattern_text_eq, B_is_pattern_text, a1]
  refine lcF p.txt (fun c => .str [c]) (fun c => c != 35) (fun c => .str [c]) (by simp [fB, asS, asL, asX, asD, asI, tyT, subC, anc, itm, flatT, eqT, getI, nrm, Shp, wipeA, List.lookup, isTy, strs', putT]) (fun c hc Y N h1 h2 => ?_) [] (by rw [hl]; simp [fB, asS, asL, asX, asD, asI, tyT, subC, anc, itm, flatT, eqT, getI, nrm, Shp, wipeA, List.lookup, isTy, strs', putT]; exact Nat.le_trans (by omega : _ ≤ 20) (by decide)) ?_
  · by_cases hc : c = 35
    · subst hc
      simpa [fB, asS, asL, asX, asD, asI, tyT, subC, anc, itm, flatT, eqT, getI, nrm, Shp, wipeA, List.lookup, isTy, strs', putT] using h2
    · simpa [fB, asS, asL, asX, asD, asI, tyT, subC, anc, itm, flatT, eqT, getI, nrm, Shp, wipeA, List.lookup, isTy, strs', putT, hc] using h1
  · rw [flt_pt w]
    have e1 : ((p.a.length : Int) + p.b.length = p.txt.length - 1) := by omega
    simp [fB, asS, asL, asX, asD, asI, tyT, subC, anc, itm, flatT, eqT, getI, nrm, Shp, wipeA, List.lookup, isTy, strs', putT, e1]
    rw [← List.map_append]
    refine lcM (p.a ++ p.b) (fun c => .str [c]) (fun c => .bl (okc c)) (by simp [fB, asS, asL, asX, asD, asI, tyT, subC, anc, itm, flatT, eqT, getI, nrm, Shp, wipeA, List.lookup, isTy, strs', putT]) (fun c hc Y hy => ?_) (by simp [fB, asS, asL, asX, asD, asI, tyT, subC, anc, itm, flatT, eqT, getI, nrm, Shp, wipeA, List.lookup, isTy, strs', putT]; exact Nat.le_trans (by omega : _ ≤ 20) (by decide)) ?_
    · simp [fB, asS, asL, asX, asD, asI, tyT, subC, anc, itm, flatT, eqT, getI, nrm, Shp, wipeA, List.lookup, isTy, strs', putT]
      exact is_character_str hy
    · simpa [fB, asS, asL, asX, asD, asI, tyT, subC, anc, itm, flatT, eqT, getI, nrm, Shp, wipeA, List.lookup, isTy, strs', putT, ← List.map_append, w.a, w.b] using h
theorem prs_map {α : Type} (f : α → T) : ∀ (l : List α) (i : Nat), prs (l.map f) i = (l.zipIdx i).map fun x => .tup [.int (x.2 : Nat), f x.1]
  | [], _ => rfl
  | x :: l, i => by rw [List.map_cons, prs, prs_map f l (i + 1)]; rfl
theorem flt_at {p : Pt} (w : p.Ok) : ((p.txt.zipIdx 0).filter fun x => x.1 == 35).map (fun x => x.2) = [p.a.length] := by
  have fa : ∀ (l : List Nat) (i : Nat), l.all okc = true → (l.zipIdx i).filter (fun x => x.1 == 35) = [] := fun l i hl => List.filter_eq_nil_iff.mpr fun x hx => by
    have := okc_ne (List.all_eq_true.mp hl x.1 (List.fst_mem_of_mem_zipIdx hx))
    simpa [fB, asS, asL, asX, asD, asI, tyT, subC, anc, itm, flatT, eqT, getI, nrm, Shp, wipeA, List.lookup, isTy, strs', putT] using this
  unfold Pt.txt
  rw [List.zipIdx_append, List.filter_append, List.zipIdx_cons, List.filter_cons, fa _ _ w.a, fa _ _ w.b]
  simp [fB, asS, asL, asX, asD, asI, tyT, subC, anc, itm, flatT, eqT, getI, nrm, Shp, wipeA, List.lookup, isTy, strs', putT]
theorem Pattern_init_ok {p : Pt} (w : p.Ok) {n : Nat} (hn : m[n]? = some (.ins "Pattern" [])) (h : P .non (m.set n (.ins "Pattern" [("own_text", .str p.txt), ("own_ahead", .str p.a), ("own_behind", .str p.b)]))) : F_Pattern_init [.obj n, .str p.txt] m P Fx := by
  have hl : p.txt.length = p.a.length + p.b.length + 1 := by simp [nfT, nfS, nfE, nfA, fB, asS, asL, asX, asD, asI, tyT, subC, anc, itm, flatT, eqT, getI, nrm, Shp, wipeA, List.lookup, isTy, strs', putT, Pt.txt]; omega
  have hw := w.len
  have hnl : n < m.length := (List.getElem?_eq_some_iff.mp hn).1
  have hs : ∀ c : Cell, (m.set n c)[n]? = some c := fun c => List.getElem?_set_self hnl
  simp [nfT, nfS, nfE, nfA, fB, asS, asL, asX, asD, asI, tyT, subC, anc, itm, flatT, eqT, getI, nrm, Shp, wipeA, List.lookup, isTy, strs', putT, F_Pattern_init_eq, B_Pattern_init, nfT, nfS, nfE, nfA]
  refine is_pattern_text_pt w ?_
  simp [nfT, nfS, nfE, nfA, fB, asS, asL, asX, asD, asI, tyT, subC, anc, itm, flatT, eqT, getI, nrm, Shp, wipeA, List.lookup, isTy, strs', putT, hn, hs, putT, prs_map]
  refine lcF (p.txt.zipIdx 0) (fun x => .tup [.int (x.2 : Nat), .str [x.1]]) (fun x => x.1 == 35) (fun x => .int (x.2 : Nat)) (by simp [nfT, nfS, nfE, nfA, fB, asS, asL, asX, asD, asI, tyT, subC, anc, itm, flatT, eqT, getI, nrm, Shp, wipeA, List.lookup, isTy, strs', putT]) (fun x hx Y N h1 h2 => ?_) [] (by simp [nfT, nfS, nfE, nfA, fB, asS, asL, asX, asD, asI, tyT, subC, anc, itm, flatT, eqT, getI, nrm, Shp, wipeA, List.lookup, isTy, strs', putT, hl]; exact Nat.le_trans (by omega : _ ≤ 20) (by decide)) ?_
  · by_cases hc : x.1 = 35
    · simpa [nfT, nfS, nfE, nfA, fB, asS, asL, asX, asD, asI, tyT, subC, anc, itm, flatT, eqT, getI, nrm, Shp, wipeA, List.lookup, isTy, strs', putT, hc] using h1
    · simpa [nfT, nfS, nfE, nfA, fB, asS, asL, asX, asD, asI, tyT, subC, anc, itm, flatT, eqT, getI, nrm, Shp, wipeA, List.lookup, isTy, strs', putT, hc] using h2
  · have e := flt_at w
    have e2 : ((p.txt.zipIdx 0).filter fun x => x.1 == 35).map (fun x => T.int (x.2 : Nat)) = [T.int (p.a.length : Nat)] := by
      have := congrArg (List.map fun n : Nat => T.int (n : Nat)) e
      rw [List.map_map] at this
      exact this
    rw [e2]
    simp [nfT, nfS, nfE, nfA, fB, asS, asL, asX, asD, asI, tyT, subC, anc, itm, flatT, eqT, getI, nrm, Shp, wipeA, List.lookup, isTy, strs', putT, hs, putT]
    have c1 : cutT p.txt none (some (p.a.length : Int)) = p.a := by rw [cutT_to]; simp [nfT, nfS, nfE, nfA, fB, asS, asL, asX, asD, asI, tyT, subC, anc, itm, flatT, eqT, getI, nrm, Shp, wipeA, List.lookup, isTy, strs', putT, Pt.txt]
    have c2 : cutT p.txt (some ((p.a.length : Int) + 1)) none = p.b := by
      rw [show ((p.a.length : Int) + 1) = ((p.a.length + 1 : Nat) : Int) by omega, cutT_from]; simp [nfT, nfS, nfE, nfA, fB, asS, asL, asX, asD, asI, tyT, subC, anc, itm, flatT, eqT, getI, nrm, Shp, wipeA, List.lookup, isTy, strs', putT, Pt.txt]
    rw [c1, c2]
    exact ⟨by decide, h⟩
theorem mkPat {p : Pt} (w : p.Ok) (h : P p.t m) : F_Pattern_init [.obj m.length, .str p.txt] (m ++ [.ins "Pattern" []]) (fun t m2 => t = .non ∧ ∃ fs, m2 = m ++ [.ins "Pattern" fs] ∧ Belf 0 fs ∧ P (.ins "Pattern" fs) m) Fx := by
  refine Pattern_init_ok w (by simp [nfT, nfS, nfE, nfA, fB, asS, asL, asX, asD, asI, tyT, subC, anc, itm, flatT, eqT, getI, nrm, Shp, wipeA, List.lookup, isTy, strs', putT]) ⟨rfl, _, by simp [nfT, nfS, nfE, nfA, fB, asS, asL, asX, asD, asI, tyT, subC, anc, itm, flatT, eqT, getI, nrm, Shp, wipeA, List.lookup, isTy, strs', putT], ?_, h⟩
  simp [nfT, nfS, nfE, nfA, fB, asS, asL, asX, asD, asI, tyT, subC, anc, itm, flatT, eqT, getI, nrm, Shp, wipeA, List.lookup, isTy, strs', putT]
end
end AM
set_option maxHeartbeats 4000000
namespace AM
open PySem PySem.Spec PyProof.Rows L2 Eb
/-! ## is_pattern_text and Pattern's __init__ at any value -/
def patL (l : List Nat) : Bool := decide (l.length ≤ 20) && (decide (((l.filter fun c => c != 35).length : Int) = (l.length : Int) - 1) && (l.filter fun c => c != 35).all okc)
def patT : T → Bool
  | .str l => patL l
  | _ => false
section
variable {m : Mem} {P : PX} {Fx : FX}
theorem is_pattern_text_str {l : List Nat} (h : P (.bl (patL l)) m) : F_is_pattern_text [.str l] m P Fx := by
  by_cases a1 : (20 : Int) < l.length
  · have e : patL l = false := by unfold patL; rw [show decide (l.length ≤ 20) = false from decide_eq_false (by omega)]; rfl
    rw [e] at h
    simpa [fB, asS, asL, asX, asD, asI, tyT, subC, anc, itm, flatT, eqT, getI, nrm, Shp, wipeA, List.lookup, isTy, strs', putT, F_is_pattern_text_eq, B_is_pattern_text, a1] using h
  have hle : l.length ≤ 20 := by omega
  have hf : (l.filter fun c => c != 35).length ≤ 20 := Nat.le_trans (List.length_filter_le _ _) hle
  simp [fB, asS, asL, asX, asD, asI, tyT, subC, anc, itm, flatT, eqT, getI, nrm, Shp, wipeA, List.lookup, isTy, strs', putT, F_is_pattern_text_eq, B_is_pattern_text, a1]
  refine lcF l (fun c => .str [c]) (fun c => c != 35) (fun c => .str [c]) (by simp [fB, asS, asL, asX, asD, asI, tyT, subC, anc, itm, flatT, eqT, getI, nrm, Shp, wipeA, List.lookup, isTy, strs', putT]) (fun c hc Y N h1 h2 => ?_) [] (by first | exact Nat.le_trans hle (by decide) | (simp [fB, asS, asL, asX, asD, asI, tyT, subC, anc, itm, flatT, eqT, getI, nrm, Shp, wipeA, List.lookup, isTy, strs', putT]; exact Nat.le_trans hle (by decide))) ?_
  · by_cases hc : c = 35
    · subst hc
      simpa [fB, asS, asL, asX, asD, asI, tyT, subC, anc, itm, flatT, eqT, getI, nrm, Shp, wipeA, List.lookup, isTy, strs', putT] using h2
    · simpa [fB, asS, asL, asX, asD, asI, tyT, subC, anc, itm, flatT, eqT, getI, nrm, Shp, wipeA, List.lookup, isTy, strs', putT, hc] using h1
  · generalize hfl : (l.filter fun c => c != 35) = fl at hf
    have e2 : patL l = (decide ((fl.length : Int) = (l.length : Int) - 1) && fl.all okc) := by unfold patL; rw [hfl, show decide (l.length ≤ 20) = true from decide_eq_true hle]; rfl
    rw [e2] at h
    by_cases e1 : (fl.length : Int) = (l.length : Int) - 1
    · rw [show decide ((fl.length : Int) = (l.length : Int) - 1) = true from decide_eq_true e1, Bool.true_and] at h
      simp [fB, asS, asL, asX, asD, asI, tyT, subC, anc, itm, flatT, eqT, getI, nrm, Shp, wipeA, List.lookup, isTy, strs', putT, e1]
      refine lcM fl (fun c => .str [c]) (fun c => .bl (okc c)) (by simp [fB, asS, asL, asX, asD, asI, tyT, subC, anc, itm, flatT, eqT, getI, nrm, Shp, wipeA, List.lookup, isTy, strs', putT]) (fun c hc Y hy => ?_) (by first | exact Nat.le_trans hf (by decide) | (simp [fB, asS, asL, asX, asD, asI, tyT, subC, anc, itm, flatT, eqT, getI, nrm, Shp, wipeA, List.lookup, isTy, strs', putT]; exact Nat.le_trans hf (by decide))) ?_
      · simp [fB, asS, asL, asX, asD, asI, tyT, subC, anc, itm, flatT, eqT, getI, nrm, Shp, wipeA, List.lookup, isTy, strs', putT]
        exact is_character_str hy
      · simpa [fB, asS, asL, asX, asD, asI, tyT, subC, anc, itm, flatT, eqT, getI, nrm, Shp, wipeA, List.lookup, isTy, strs', putT] using h
    · rw [show decide ((fl.length : Int) = (l.length : Int) - 1) = false from decide_eq_false e1, Bool.false_and] at h
      have e3 : ((fl.length : Int) == (l.length : Int) - 1) = false := beq_eq_false_iff_ne.mpr e1
      simpa [fB, asS, asL, asX, asD, asI, tyT, subC, anc, itm, flatT, eqT, getI, nrm, Shp, wipeA, List.lookup, isTy, strs', putT, e1, e3] using h
theorem is_pattern_text_any {t : T} (b : Bas t) (h : P (.bl (patT t)) m) : F_is_pattern_text [t] m P Fx := by
  cases t <;> first | exact is_pattern_text_str h | exact b.elim | simpa [fB, asS, asL, asX, asD, asI, tyT, subC, anc, itm, flatT, eqT, getI, nrm, Shp, wipeA, List.lookup, isTy, strs', putT, F_is_pattern_text_eq, B_is_pattern_text, patT] using h
theorem Pattern_init_no {n : Nat} {t : T} (b : Bas t) (hp : patT t = false) (h : Fx ("InvalidPattern", [("value", t)]) m) : F_Pattern_init [.obj n, t] m P Fx := by
  rw [F_Pattern_init_eq]
  unfold B_Pattern_init
  refine is_pattern_text_any b ?_
  rw [hp]
  exact h
end
end AM
set_option maxHeartbeats 4000000
namespace AM
open PySem PySem.Spec PyProof.Rows L2 Eb
/-! ## counts and rooms -/
section
variable {m : Mem} {P : PX} {Fx : FX}
theorem is_integer_int {i : Int} (h : P (.bl true) m) : F_is_integer [.int i] m P Fx := by
  simp [fB, asS, asL, asX, asD, asI, tyT, subC, anc, itm, flatT, eqT, getI, nrm, Shp, wipeA, List.lookup, isTy, strs', putT, F_is_integer_eq, B_is_integer, fB, tyT, subC, anc, h]
theorem is_count_int {i : Int} (h : P (.bl (decide (0 ≤ i))) m) : F_is_count [.int i] m P Fx := by
  simp [fB, asS, asL, asX, asD, asI, tyT, subC, anc, itm, flatT, eqT, getI, nrm, Shp, wipeA, List.lookup, isTy, strs', putT, F_is_count_eq, B_is_count, fB]
  apply is_integer_int
  simpa [fB, asS, asL, asX, asD, asI, tyT, subC, anc, itm, flatT, eqT, getI, nrm, Shp, wipeA, List.lookup, isTy, strs', putT] using h
theorem is_integer_no {t : T} (b : Bas t) (hi : ∀ i, t ≠ .int i) (h : P (.bl false) m) : F_is_integer [t] m P Fx := by
  cases t <;> first | exact absurd rfl (hi _) | exact b.elim | simpa [fB, asS, asL, asX, asD, asI, tyT, subC, anc, itm, flatT, eqT, getI, nrm, Shp, wipeA, List.lookup, isTy, strs', putT, F_is_integer_eq, B_is_integer] using h
theorem is_count_any {t : T} (b : Bas t) (h : P (.bl (cntT t)) m) : F_is_count [t] m P Fx := by
  by_cases hi : ∃ i, t = .int i
  · obtain ⟨i, rfl⟩ := hi
    exact is_count_int h
  · have e : cntT t = false := by
      cases t <;> first | rfl | exact absurd ⟨_, rfl⟩ hi
    rw [e] at h
    rw [F_is_count_eq]
    unfold B_is_count
    refine is_integer_no b (fun i e => hi ⟨i, e⟩) ?_
    exact h
theorem Pattern_filled_ok {p : Pt} (w : p.Ok) {d : Int} (hd : 0 ≤ d) (hb : d.natAbs.log2 < 1920) (h : P (.str (p.fill d)) m) : F_Pattern_filled [p.t, .int d] m P Fx := by
  simp [fB, asS, asL, asX, asD, asI, tyT, subC, anc, itm, flatT, eqT, getI, nrm, Shp, wipeA, List.lookup, isTy, strs', putT, F_Pattern_filled_eq, B_Pattern_filled, nfT, nfS, nfE, nfA]
  refine is_count_int ?_
  simp [fB, asS, asL, asX, asD, asI, tyT, subC, anc, itm, flatT, eqT, getI, nrm, Shp, wipeA, List.lookup, isTy, strs', putT, hd, Pt.t, strs', joinT]
  have l1 := strI_len (d := d) hb
  have := w.len
  refine ⟨hb, by decide, by simp [fB, asS, asL, asX, asD, asI, tyT, subC, anc, itm, flatT, eqT, getI, nrm, Shp, wipeA, List.lookup, isTy, strs', putT, Pt.fill] at *; omega, by simpa [fB, asS, asL, asX, asD, asI, tyT, subC, anc, itm, flatT, eqT, getI, nrm, Shp, wipeA, List.lookup, isTy, strs', putT, Pt.fill] using h⟩
theorem filled_no {p : Pt} {t : T} (b : Bas t) (hc : cntT t = false) (h : Fx ("InvalidCount", [("value", t)]) m) : F_Pattern_filled [p.t, t] m P Fx := by
  rw [F_Pattern_filled_eq]
  unfold B_Pattern_filled
  refine is_count_any b ?_
  rw [hc]
  exact h
theorem want_room_no {p : Pt} {t : T} (b : Bas t) (hc : cntT t = false) (h : Fx ("InvalidCount", [("value", t)]) m) : F_Pattern_want_room [p.t, t] m P Fx := by
  rw [F_Pattern_want_room_eq]
  unfold B_Pattern_want_room
  refine is_count_any b ?_
  rw [hc]
  exact h
theorem want_room_int {p : Pt} {i : Int} (hi : 0 ≤ i) (h : if (20 : Int) < (p.txt.length : Int) + i then Fx ("TooMany", [("limit", .int 20), ("what", .str (q "characters"))]) m else P .non m) : F_Pattern_want_room [p.t, .int i] m P Fx := by
  rw [F_Pattern_want_room_eq]
  unfold B_Pattern_want_room
  refine is_count_any (t := .int i) trivial ?_
  rw [show cntT (.int i) = true from decide_eq_true hi]
  by_cases hc : (20 : Int) < (p.txt.length : Int) + i
  · rw [if_pos hc] at h
    simp [fB, asS, asL, asX, asD, asI, tyT, subC, anc, itm, flatT, eqT, getI, nrm, Shp, wipeA, List.lookup, isTy, strs', putT, sRaise2, Pt.t, hc]
    exact ⟨_, _, ⟨rfl, rfl⟩, h⟩
  · rw [if_neg hc] at h
    simpa [fB, asS, asL, asX, asD, asI, tyT, subC, anc, itm, flatT, eqT, getI, nrm, Shp, wipeA, List.lookup, isTy, strs', putT, sRaise2, Pt.t, hc] using h
end
end AM
set_option maxHeartbeats 4000000
namespace AM
open PySem PySem.Spec PyProof.Rows L2 Eb
/-! ## width, + and reflected +, refused -/
section
variable {m : Mem} {P : PX} {Fx : FX}
theorem width_no {p : Pt} {t : T} (b : Bas t) (hc : cntT t = false) (h : Fx ("InvalidCount", [("value", t)]) m) : F_Pattern_width [p.t, t] m P Fx := by
  simp [fB, asS, asL, asX, asD, asI, tyT, subC, anc, itm, flatT, eqT, getI, nrm, Shp, wipeA, List.lookup, isTy, strs', putT, Pt.t, F_Pattern_width_eq, B_Pattern_width]
  exact filled_no b hc h
theorem add_no {p : Pt} {t : T} (b : Bas t) (hc : cntT t = false) (h : Fx ("InvalidCount", [("value", t)]) m) : F_Pattern_add [p.t, t] m P Fx := by
  simp [fB, asS, asL, asX, asD, asI, tyT, subC, anc, itm, flatT, eqT, getI, nrm, Shp, wipeA, List.lookup, isTy, strs', putT, Pt.t, F_Pattern_add_eq, B_Pattern_add]
  exact want_room_no b hc h
theorem radd_no {p : Pt} {t : T} (b : Bas t) (hc : cntT t = false) (h : Fx ("InvalidCount", [("value", t)]) m) : F_Pattern_radd [p.t, t] m P Fx := by
  simp [fB, asS, asL, asX, asD, asI, tyT, subC, anc, itm, flatT, eqT, getI, nrm, Shp, wipeA, List.lookup, isTy, strs', putT, Pt.t, F_Pattern_radd_eq, B_Pattern_radd]
  exact want_room_no b hc h
theorem add_many {p : Pt} {i : Int} (hi : 0 ≤ i) (hn : (20 : Int) < (p.txt.length : Int) + i) (h : Fx ("TooMany", [("limit", .int 20), ("what", .str (q "characters"))]) m) : F_Pattern_add [p.t, .int i] m P Fx := by
  simp [fB, asS, asL, asX, asD, asI, tyT, subC, anc, itm, flatT, eqT, getI, nrm, Shp, wipeA, List.lookup, isTy, strs', putT, Pt.t, F_Pattern_add_eq, B_Pattern_add]
  refine want_room_int hi ?_
  rw [if_pos hn]
  exact h
theorem radd_many {p : Pt} {i : Int} (hi : 0 ≤ i) (hn : (20 : Int) < (p.txt.length : Int) + i) (h : Fx ("TooMany", [("limit", .int 20), ("what", .str (q "characters"))]) m) : F_Pattern_radd [p.t, .int i] m P Fx := by
  simp [fB, asS, asL, asX, asD, asI, tyT, subC, anc, itm, flatT, eqT, getI, nrm, Shp, wipeA, List.lookup, isTy, strs', putT, Pt.t, F_Pattern_radd_eq, B_Pattern_radd]
  refine want_room_int hi ?_
  rw [if_pos hn]
  exact h
end
end AM
set_option maxHeartbeats 4000000
namespace AM
open PySem PySem.Spec PyProof.Rows L2 Eb
/-! ## + of a pattern and a count with room -/
section
variable {m : Mem} {P : PX} {Fx : FX}
theorem mkPatQ {Q : PX} {x : Pt} (w : x.Ok) (h : ∀ fs, Pt.t x = .ins "Pattern" fs → Belf 0 fs → Q .non (m ++ [.ins "Pattern" fs])) : F_Pattern_init [.obj m.length, .str x.txt] (m ++ [.ins "Pattern" []]) Q Fx := by
  refine Pattern_init_ok w (by simp [fB, asS, asL, asX, asD, asI, tyT, subC, anc, itm, flatT, eqT, getI, nrm, Shp, wipeA, List.lookup, isTy, strs', putT]) ?_
  have := h [("own_text", .str x.txt), ("own_ahead", .str x.a), ("own_behind", .str x.b)] rfl (by simp [Belf, Bel])
  simpa [fB, asS, asL, asX, asD, asI, tyT, subC, anc, itm, flatT, eqT, getI, nrm, Shp, wipeA, List.lookup, isTy, strs', putT] using this
/-- blanks behind, blanks ahead -/
def Pt.later (p : Pt) (n : Nat) : Pt := ⟨p.a, p.b ++ List.replicate n 32⟩
def Pt.early (p : Pt) (n : Nat) : Pt := ⟨List.replicate n 32 ++ p.a, p.b⟩
theorem rep_okc (n : Nat) : (List.replicate n 32).all okc = true := by
  rw [List.all_eq_true]
  intro c hc
  rw [List.eq_of_mem_replicate hc]
  decide +kernel
theorem later_ok {p : Pt} (w : p.Ok) {n : Nat} (h : p.txt.length + n ≤ 20) : (p.later n).Ok := by
  have e : p.txt.length = p.a.length + p.b.length + 1 := by simp [Pt.txt]; omega
  refine ⟨?_, w.a, ?_⟩
  · simp [Pt.later]; omega
  · simp only [Pt.later, List.all_append, w.b, rep_okc, Bool.and_self]
theorem early_ok {p : Pt} (w : p.Ok) {n : Nat} (h : p.txt.length + n ≤ 20) : (p.early n).Ok := by
  have e : p.txt.length = p.a.length + p.b.length + 1 := by simp [Pt.txt]; omega
  refine ⟨?_, ?_, w.b⟩
  · simp [Pt.early]; omega
  · simp only [Pt.early, List.all_append, w.a, rep_okc, Bool.and_self]
end
end AM
set_option maxHeartbeats 4000000
namespace AM
open PySem PySem.Spec PyProof.Rows L2 Eb
/-! ## + of a pattern and a count with room: the new pattern -/
section
variable {m : Mem} {P : PX} {Fx : FX}
theorem txt_later (p : Pt) (n : Nat) : p.txt ++ List.replicate n 32 = (p.later n).txt := by simp [Pt.txt, Pt.later]
theorem txt_early (p : Pt) (n : Nat) : List.replicate n 32 ++ p.txt = (p.early n).txt := by simp [Pt.txt, Pt.early]
theorem add_ok {p : Pt} (w : p.Ok) {n : Nat} (hn : p.txt.length + n ≤ 20) (h : P (p.later n).t m) : F_Pattern_add [p.t, .int n] m P Fx := by
  have n1 : ¬ (20 : Int) < (p.txt.length : Int) + (n : Int) := by omega
  have n2 : (n : Int) ≤ 1000 := by omega
  simp [fB, asS, asL, asX, asD, asI, tyT, subC, anc, itm, flatT, eqT, getI, nrm, Shp, wipeA, List.lookup, isTy, strs', putT, Pt.t, F_Pattern_add_eq, B_Pattern_add]
  refine want_room_int (p := p) (i := (n : Int)) (by omega) ?_
  rw [if_neg n1]
  rw [show q " " = [32] from by decide +kernel]
  simp [fB, asS, asL, asX, asD, asI, tyT, subC, anc, itm, flatT, eqT, getI, nrm, Shp, wipeA, List.lookup, isTy, strs', putT, n2]
  refine ⟨Nat.le_trans hn (by decide), ?_⟩
  rw [txt_later]
  exact mkPat (later_ok w hn) h
theorem radd_ok {p : Pt} (w : p.Ok) {n : Nat} (hn : p.txt.length + n ≤ 20) (h : P (p.early n).t m) : F_Pattern_radd [p.t, .int n] m P Fx := by
  have n1 : ¬ (20 : Int) < (p.txt.length : Int) + (n : Int) := by omega
  have n2 : (n : Int) ≤ 1000 := by omega
  simp [fB, asS, asL, asX, asD, asI, tyT, subC, anc, itm, flatT, eqT, getI, nrm, Shp, wipeA, List.lookup, isTy, strs', putT, Pt.t, F_Pattern_radd_eq, B_Pattern_radd]
  refine want_room_int (p := p) (i := (n : Int)) (by omega) ?_
  rw [if_neg n1]
  rw [show q " " = [32] from by decide +kernel]
  simp [fB, asS, asL, asX, asD, asI, tyT, subC, anc, itm, flatT, eqT, getI, nrm, Shp, wipeA, List.lookup, isTy, strs', putT, n2]
  refine ⟨Nat.le_trans (by omega : n + p.txt.length ≤ 20) (by decide), ?_⟩
  rw [txt_early]
  exact mkPat (early_ok w hn) h
end
end AM
set_option maxHeartbeats 4000000
namespace AM
open PySem PySem.Spec PyProof.Rows L2 Eb
def RowM.isP (r : RowM) : Bool := match r.far with | .wd _ => false | .pt _ => true
def RowM.wid (r : RowM) (d : Nat) : Nat := (r.word d).length
def narrow (a b : RowM) : Bool := if a.isP && !b.isP then false else (List.range (max a.ws.length b.ws.length + 1)).all fun d => decide (a.wid d ≤ b.wid d)
theorem all_bl {α : Type} {f : α → Bool} {l : List α} : bools (l.map fun x => T.bl (f x)) = some (l.map f) := bools_map
section
variable {m : Mem} {P : PX} {Fx : FX}
theorem log2_10 {d : Nat} (h : d ≤ 10) : d.log2 < 1920 := by
  rcases Nat.eq_zero_or_pos d with rfl | z
  · decide
  · exact (Nat.log2_lt (by omega)).mpr (Nat.lt_of_le_of_lt h (Nat.lt_of_lt_of_le (by decide : 10 < 2 ^ 4) (Nat.pow_le_pow_right (by decide) (by decide))))
theorem blc {p q : Prop} [Decidable p] [Decidable q] {Y : PX} (e : p ↔ q) (h : Y (.bl (decide p)) m) : Y (.bl (decide q)) m := by rwa [decide_eq_decide.mpr e] at h
theorem eqTs_strs : ∀ (ws : List (List Nat)), eqTs (ws.map T.str) (ws.map T.str) = true
  | [] => by simp [fB, asS, asL, asX, asD, asI, tyT, subC, anc, itm, flatT, eqT, getI, nrm, Shp, wipeA, List.lookup, isTy, strs', putT, eqTs]
  | w :: ws => by rw [List.map_cons]; simp [fB, asS, asL, asX, asD, asI, tyT, subC, anc, itm, flatT, eqT, getI, nrm, Shp, wipeA, List.lookup, isTy, strs', putT, eqTs, eqTs_strs ws]
/-! ### a word set -/
def RowM.pad (r : RowM) (n : Nat) : List (List Nat) := r.ws ++ (List.range (n - r.ws.length)).map fun i => r.word (r.ws.length + i)
def RowM.setAt (r : RowM) (i : Nat) (w : List Nat) : RowM := ⟨(r.pad (i + 1)).set i w, r.far⟩
theorem pad_step {r : RowM} {j : Nat} (h : r.ws.length ≤ j) : r.pad (j + 1) = r.pad j ++ [r.word j] := by
  unfold RowM.pad
  rw [show j + 1 - r.ws.length = (j - r.ws.length) + 1 by omega, List.range_succ, List.map_append, ← List.append_assoc]
  simp [fB, asS, asL, asX, asD, asI, tyT, subC, anc, itm, flatT, eqT, getI, nrm, Shp, wipeA, List.lookup, isTy, strs', putT, show r.ws.length + (j - r.ws.length) = j by omega]
theorem pad_le {r : RowM} {j : Nat} (h : j ≤ r.ws.length) : r.pad j = r.ws := by
  unfold RowM.pad
  rw [show j - r.ws.length = 0 by omega]
  simp [fB, asS, asL, asX, asD, asI, tyT, subC, anc, itm, flatT, eqT, getI, nrm, Shp, wipeA, List.lookup, isTy, strs', putT]
theorem pad_len {r : RowM} {j : Nat} : (r.pad j).length = max r.ws.length j := by
  unfold RowM.pad
  simp [fB, asS, asL, asX, asD, asI, tyT, subC, anc, itm, flatT, eqT, getI, nrm, Shp, wipeA, List.lookup, isTy, strs', putT]
  omega
theorem pad_word {r : RowM} {j : Nat} (h : r.ws.length ≤ j) : (⟨r.pad j, r.far⟩ : RowM).word j = r.word j := by
  unfold RowM.word
  rw [List.getElem?_eq_none (by show (r.pad j).length ≤ j; rw [pad_len]; omega), List.getElem?_eq_none h]
theorem strI_dig : ∀ d : Fin 8, strI ((d : Nat) : Int) = [48 + (d : Nat)] := by decide +kernel
theorem wd_word {r : RowM} (wr : r.Ok) {d : Nat} (hd : d < 8) : Wd (r.word d) := by
  unfold RowM.word
  split
  · rename_i w e
    exact wr.ws w (List.mem_of_getElem? e)
  · have wf := wr.far
    cases hf : r.far with
    | wd l => rw [hf] at wf; exact wf
    | pt p =>
      rw [hf] at wf
      have wf : p.Ok := wf
      have e := strI_dig ⟨d, hd⟩
      have e : strI (d : Int) = [48 + d] := e
      have hl := wf.len
      refine ⟨?_, ?_⟩
      · show (p.a ++ strI (d : Int) ++ p.b).length ≤ 20
        rw [e]; simp [fB, asS, asL, asX, asD, asI, tyT, subC, anc, itm, flatT, eqT, getI, nrm, Shp, wipeA, List.lookup, isTy, strs', putT]; omega
      · show (p.a ++ strI (d : Int) ++ p.b).all okc = true
        rw [e]
        simp only [List.all_append, wf.a, wf.b, Bool.true_and, Bool.and_true, List.all_cons, List.all_nil]
        unfold okc
        simp [fB, asS, asL, asX, asD, asI, tyT, subC, anc, itm, flatT, eqT, getI, nrm, Shp, wipeA, List.lookup, isTy, strs', putT]
        omega
theorem pad_ok {r : RowM} (wr : r.Ok) {j : Nat} (hj : j ≤ 8) : (⟨r.pad j, r.far⟩ : RowM).Ok := by
  refine ⟨?_, fun w hw => ?_, wr.far⟩
  · show (r.pad j).length ≤ 8
    have := wr.len
    rw [pad_len]; omega
  · rcases List.mem_append.mp hw with h | h
    · exact wr.ws w h
    · obtain ⟨x, hx, rfl⟩ := List.mem_map.mp h
      have := List.mem_range.mp hx
      exact wd_word wr (by omega)
theorem setAt_ok {r : RowM} (wr : r.Ok) {i : Nat} (hi : i < 8) {w : List Nat} (ww : Wd w) : (r.setAt i w).Ok := by
  have h := pad_ok wr (j := i + 1) (by omega)
  refine ⟨by show ((r.pad (i + 1)).set i w).length ≤ 8; rw [List.length_set]; exact h.len, fun x hx => ?_, wr.far⟩
  rcases List.mem_or_eq_of_mem_set hx with z | rfl
  · exact h.ws x z
  · exact ww
theorem whileJ {t : AT} {p : AS} {D : EA} (J : Nat → SS → Mem → Prop) (h0 : ∀ z m, ¬ J 0 z m)
    (hs : ∀ n z m, J (n + 1) z m → ∀ N : SS → Mem → Prop, (∀ z m, J n z m → N z m) → t z m (fun k m1 => if k = true then p { D with nx := N, ct := N, bk := D.nx } z m1 else D.nx z m1) (D.ex z)) : ∀ n z m, J n z m → sWhileN t p n D z m
  | 0, z, m, h => (h0 z m h).elim
  | n + 1, z, m, h => hs n z m h _ fun z m hj => whileJ J h0 hs n z m hj
end
end AM
set_option maxHeartbeats 4000000
namespace AM
open PySem PySem.Spec PyProof.Rows L2 Eb
theorem ifI {c : Prop} [Decidable c] {a b : Prop} (h1 : c → a) (h2 : ¬ c → b) : if c then a else b := by
  by_cases h : c
  · rw [if_pos h]; exact h1 h
  · rw [if_neg h]; exact h2 h
theorem zL {k : Nat} (hk : k ≤ 1000) : k ≤ sizeLine := Nat.le_trans hk (by decide)
theorem sz1 : 1 ≤ sizeLine := by decide
theorem sz2 : 2 ≤ sizeLine := by decide
theorem sz3 : 3 ≤ sizeLine := by decide
theorem sz7 : 7 ≤ sizeLine := by decide
theorem sz8 : 8 ≤ sizeLine := by decide
theorem qh : q "#" = [35] := by decide
theorem no_hash {l : List Nat} (h : l.all okc = true) : 35 ∉ l := fun z => okc_ne (List.all_eq_true.mp h 35 z) rfl
def Far.txt : Far → List Nat
  | .wd l => l
  | .pt p => p.txt
def rowT (r : RowM) : T := .tup [.lst (r.ws.map T.str), .str r.far.txt]
abbrev stop (P : PX) (Fx : FX) : EA := { nx := fun _ m => P .non m, rt := P, bk := fun _ _ => False, ct := fun _ _ => False, ex := fun _ => Fx }
section
variable {m : Mem} {P : PX} {Fx : FX} {p : Nat}
theorem draw_ok {k : Int} (hp : m[p]? = some .pot) (hk : 0 < k) (hk2 : k ≤ 1000000) (h : ∀ d : Nat, (d : Int) < k → P (.int d) m) : F__law_draw [.obj p, .int k] m P Fx := by rw [F__law_draw_eq]; exact ⟨hk, Int.le_trans hk2 (by decide), hp, h⟩
theorem draw_okB {k : Int} (hp : m[p]? = some .pot) (hk : 0 < k) (hk2 : k ≤ 10 ^ 60) (h : ∀ d : Nat, (d : Int) < k → P (.int d) m) : F__law_draw [.obj p, .int k] m P Fx := by rw [F__law_draw_eq]; exact ⟨hk, hk2, hp, h⟩
theorem pick_ok {xs : List T} (hp : m[p]? = some .pot) (h0 : xs ≠ []) (hl : xs.length ≤ 1000) (h : ∀ x ∈ xs, P x m) : F__law_choice [.obj p, .lst xs] m P Fx := by
  have hpos : 0 < xs.length := List.length_pos_iff.mpr h0
  rw [F__law_choice_eq]
  refine draw_ok hp (by omega) (by omega) fun d hd => ?_
  have hd' : d < xs.length := by omega
  have e : getI xs (d : Int) = some xs[d] := by simp [getI, hd']
  show (match getI xs (d : Int) with | some t => P t m | none => False)
  rw [e]
  exact h _ (List.getElem_mem _)
theorem pick_str {l : List Nat} (hp : m[p]? = some .pot) (h0 : l ≠ []) (hl : l.length ≤ 1000) (h : ∀ c ∈ l, P (.str [c]) m) : F__law_choice [.obj p, .str l] m P Fx := by
  have hpos : 0 < l.length := List.length_pos_iff.mpr h0
  rw [F__law_choice_eq]
  refine draw_ok hp (by omega) (by omega) fun d hd => ?_
  have hd' : d < l.length := by omega
  have e : getI l (d : Int) = some l[d] := by simp [getI, hd']
  show (match getI l (d : Int) with | some c => P (.str [c]) m | none => False)
  rw [e]
  exact h _ (List.getElem_mem _)
theorem shpS {l : List Nat} : Shp 60 (nrm m (.str l)) := by simp [nrm]
theorem eqS {a b : List Nat} (e : a = b) : eqT (nrm m (.str a)) (nrm m (.str b)) = true := by subst e; simp [nrm, eqT]
theorem neS {a b : List Nat} (hc : (!eqT (nrm m (.str a)) (nrm m (.str b))) = true) (e : a = b) : False := by rw [eqS e] at hc; cases hc
def strs3 (l : List (List Nat)) : T := .lst (l.map T.str)
theorem joinT_nil : ∀ l : List (List Nat), joinT [] l = l.flatten
  | [] => rfl
  | [x] => by simp [joinT]
  | x :: y :: r => by
    have e : joinT [] (x :: y :: r) = x ++ [] ++ joinT [] (y :: r) := rfl
    rw [e, joinT_nil (y :: r)]
    simp
theorem strs_m : ∀ l : List (List Nat), strs' (l.map T.str) = some l
  | [] => rfl
  | x :: l => by rw [List.map_cons, strs', strs_m l]; rfl
/-- sep.join(list) -/
theorem joins_ok {sep : List Nat} {ls : List (List Nat)} (hz : (ls.map List.length).sum + ls.length * sep.length ≤ 16777216) (h : P (.str (joinT sep ls)) m) : joinA (.str sep) [.lst (ls.map T.str)] m P := by
  unfold joinA
  simp only [asS, asL, asX, strs_m]
  exact ⟨hz, h⟩
theorem txt_len {f : Far} (w : f.Ok) : f.txt.length ≤ 20 := by
  cases f with
  | wd l => exact w.len
  | pt p => have := w.len; simp [Far.txt, Pt.txt]; omega
theorem isi_skip {t : T} {C C' : String} {A : AS} {D : EA} {z : SS} {i : Nat} (hz : z[i]? = some (some (.v t))) (ht : tyT m t = some C) (hs : ([C'].any (subC anc C)) = true) (h : A D z m) : sSeq (sIf (aNotT (aTru (aIsi anc [C'] (aVar i)))) sNever sNil) A D z m := by
  simp only [sSeq, sIf, aNotT, aTru, aIsi, aVar, hz, ht, hs, Tru]
  exact h
theorem has_hash {x : Pt} : 35 ∈ x.txt := by simp [Pt.txt]
theorem pt_inj {x y : Pt} (wx : x.Ok) (wy : y.Ok) (h : x.txt = y.txt) : x = y := by
  have h1 := partT_at (A := x.a) (B := x.b) (no_hash wx.a)
  have h2 := partT_at (A := y.a) (B := y.b) (no_hash wy.a)
  unfold Pt.txt at h
  rw [h, h2] at h1
  obtain ⟨xa, xb⟩ := x
  obtain ⟨ya, yb⟩ := y
  simp at h1
  rw [h1.1, h1.2]
theorem far_inj {f f' : Far} (w : f.Ok) (w' : f'.Ok) (h : f.txt = f'.txt) : f = f' := by
  cases f with
  | wd l =>
    cases f' with
    | wd l' => rw [show l = l' from h]
    | pt x => exact absurd (by rw [show l = x.txt from h]; exact has_hash) (no_hash w.all)
  | pt x =>
    cases f' with
    | wd l' => exact absurd (by rw [← show x.txt = l' from h]; exact has_hash) (no_hash w'.all)
    | pt y => rw [pt_inj w w' h]
theorem eqTs_str : ∀ (a b : List (List Nat)), eqTs (a.map T.str) (b.map T.str) = true → a = b
  | [], [], _ => rfl
  | [], y :: b, h => by simp [eqTs] at h
  | x :: a, [], h => by simp [eqTs] at h
  | x :: a, y :: b, h => by
    simp only [List.map_cons, eqTs, eqT, Bool.and_eq_true, decide_eq_true_eq] at h
    rw [h.1, eqTs_str a b h.2]
def rowEq (a b : RowM) : Bool := decide (a.ws = b.ws) && decide (a.far.txt = b.far.txt)
theorem eqTs_dec (a b : List (List Nat)) : eqTs (a.map T.str) (b.map T.str) = decide (a = b) := by
  by_cases h : a = b
  · subst h; simp [eqTs_strs]
  · simp only [h, decide_false]
    cases e : eqTs (a.map T.str) (b.map T.str) with
    | true => exact absurd (eqTs_str a b e) h
    | false => rfl
theorem rowEq_self (a : RowM) : rowEq a a = true := by simp [rowEq]
end
end AM
set_option maxHeartbeats 4000000
namespace AM
open PySem PySem.Spec PyProof.Rows L2 Eb
section
variable {m : Mem} {P : PX} {Fx : FX} {p : Nat}
theorem shpI {i : Int} : Shp 60 (nrm m (.int i)) := by simp [nrm]
theorem pick_nat {xs : List T} {b : Nat} (hp : m[p]? = some .pot) (h0 : xs ≠ []) (hl : xs.length ≤ 1000) (hx : ∀ x ∈ xs, ∃ n : Nat, n ≤ b ∧ x = .int n) (h : ∀ n : Nat, n ≤ b → P (.int n) m) : F__law_choice [.obj p, .lst xs] m P Fx :=
  pick_ok hp h0 hl fun x hm => by obtain ⟨n, hn, rfl⟩ := hx x hm; exact h n hn
def signs : List Nat := q " ab9 !$&'()*+,-./0123456789:;<=>?\x40ABCDEFGHIJKLMNOPQRSTUVWXYZ[]^_`abcdefghijklmnopqrstuvwxyz{|}~"
theorem signs_ok : signs.all okc = true := by decide
theorem signs_pos : signs ≠ [] := by decide
theorem signs_len : signs.length ≤ 1000 := by decide
theorem word_ok {n : Nat} (hp : m[p]? = some .pot) (hn : n ≤ 20) (h : ∀ l, Wd l → l.length = n → P (.str l) m) : F__law_word [.obj p, .int n] m P Fx := by
  rw [F__law_word_eq]
  have key : aLc1 (fun _ => True) (cN 3) [3] aYes (aCall F__law_choice [] (aCons (aVar 0) (aCons (aVar 2) aNil))) [some (.v (.obj p)), some (.v (.int n)), some (.v (.str signs)), none]
      (fun x m1 => joinA (.str (q "")) [x] m1 P) [] (rngT 0 n) m := by
    unfold rngT
    refine lcJ (fun i : Nat => T.int (0 + (i : Int))) (fun r acc m' => m' = m ∧ ∃ cs : List Nat, acc = (cs.map fun c => [c]).map T.str ∧ cs.length + r.length = n ∧ cs.all okc = true) (fun i r acc m' hj => ?_) (fun r acc m' hj => ?_) (fun acc m' hj => ?_) (List.range n) [] m ⟨rfl, [], rfl, by simp, rfl⟩
    · obtain ⟨rfl, cs, rfl, hl, hc⟩ := hj
      refine ⟨trivial, fun Y N h1 h2 => ?_⟩
      have go : ∀ S : List Nat, S ≠ [] → S.length ≤ 1000 → S.all okc = true → F__law_choice [.obj p, .str S] m' Y (fun _ _ => False) := by
        intro S h0 hS hok
        refine pick_str hp h0 hS fun c hc' => ?_
        have ho := List.all_eq_true.mp hok c hc'
        refine h1 _ _ ⟨rfl, cs ++ [c], by simp, by simp at hl ⊢; omega, by simp [hc, ho]⟩ ?_
        exact Nat.lt_of_lt_of_le (by simp at hl ⊢; omega : _ < 30) (by decide)
      exact go signs signs_pos signs_len signs_ok
    · obtain ⟨_, cs, rfl, hl, _⟩ := hj
      exact Nat.lt_of_lt_of_le (by simp; omega : _ < 30) (by decide)
    · obtain ⟨rfl, cs, rfl, hl, hc⟩ := hj
      refine ⟨trivial, ?_⟩
      have e : joinT (q "") (cs.map fun c => [c]) = cs := by
        rw [show q "" = [] by decide, joinT_nil]
        clear hl hc
        induction cs with
        | nil => rfl
        | cons c cs ih => rw [List.map_cons, List.flatten_cons, ih]; rfl
      refine joins_ok ?_ (by rw [e]; exact h cs ⟨by simpa using (by simp at hl; omega : cs.length ≤ 20), hc⟩ (by simpa using hl))
      have hq : (q "").length = 0 := by decide
      have hs : ((cs.map fun c => [c]).map List.length).sum = cs.length := by
        clear hl hc e
        induction cs with
        | nil => rfl
        | cons c cs ih => simp only [List.map_cons, List.sum_cons, ih, List.length_cons, List.length_nil]; omega
      rw [hs, hq]
      simp at hl ⊢
      omega
  refine ⟨trivial, ?_, ?_, key⟩
  · omega
  · omega
theorem sz10 : 10 ≤ sizeLine := by decide
theorem any_ok (hp : m[p]? = some .pot) (h : ∀ l, Wd l → P (.str l) m) : F__law_any_word [.obj p] m P Fx := by
  rw [F__law_any_word_eq]
  unfold B__law_any_word
  refine ⟨sz10, ?_⟩
  refine pick_nat (b := 20) hp (by simp) (by simp) (fun x hx => ?_) fun n hn => ?_
  · simp only [List.mem_cons, List.not_mem_nil, or_false] at hx
    rcases hx with rfl | rfl | rfl | rfl | rfl | rfl | rfl | rfl | rfl | rfl
    · exact ⟨0, by decide, rfl⟩
    · exact ⟨1, by decide, rfl⟩
    · exact ⟨2, by decide, rfl⟩
    · exact ⟨3, by decide, rfl⟩
    · exact ⟨4, by decide, rfl⟩
    · exact ⟨5, by decide, rfl⟩
    · exact ⟨7, by decide, rfl⟩
    · exact ⟨10, by decide, rfl⟩
    · exact ⟨19, by decide, rfl⟩
    · exact ⟨20, by decide, rfl⟩
  exact word_ok hp hn fun l hl _ => h l hl
/-- l[:d] + "#" + l[d:] -/
def Pt.cut (l : List Nat) (d : Nat) : Pt := ⟨l.take d, l.drop d⟩
theorem cut_txt (l : List Nat) (d : Nat) : (Pt.cut l d).txt = l.take d ++ [35] ++ l.drop d := by simp [Pt.cut, Pt.txt]
theorem cut_ok {l : List Nat} {d : Nat} (w : Wd l) (h : l.length ≤ 19) : (Pt.cut l d).Ok := by
  have e : (Pt.cut l d).a ++ (Pt.cut l d).b = l := List.take_append_drop d l
  have ha := w.all
  rw [← e, List.all_append, Bool.and_eq_true] at ha
  have hl := congrArg List.length e
  rw [List.length_append] at hl
  exact ⟨by omega, ha.1, ha.2⟩
theorem pat_ok (hp : m[p]? = some .pot) (h : ∀ x : Pt, x.Ok → P (.str x.txt) m) : F__law_pattern_text [.obj p] m P Fx := by
  rw [F__law_pattern_text_eq]
  unfold B__law_pattern_text
  rw [qh]
  refine ⟨sz8, ?_⟩
  refine pick_nat (b := 19) hp (by simp) (by simp) (fun x hx => ?_) fun n hn => ?_
  · simp only [List.mem_cons, List.not_mem_nil, or_false] at hx
    rcases hx with rfl | rfl | rfl | rfl | rfl | rfl | rfl | rfl
    · exact ⟨0, by decide, rfl⟩
    · exact ⟨0, by decide, rfl⟩
    · exact ⟨1, by decide, rfl⟩
    · exact ⟨2, by decide, rfl⟩
    · exact ⟨5, by decide, rfl⟩
    · exact ⟨13, by decide, rfl⟩
    · exact ⟨18, by decide, rfl⟩
    · exact ⟨19, by decide, rfl⟩
  refine word_ok hp (by omega) fun l hl hll => ?_
  refine draw_ok hp (by omega) (by omega) fun d hd => ?_
  have c1 : cutT l none (some (d : Int)) = l.take d := by rw [cutT_to]
  have c2 : cutT l (some (d : Int)) none = l.drop d := by rw [cutT_from]
  have hz := h (Pt.cut l d) (cut_ok hl (by omega))
  rw [cut_txt] at hz
  show (cutT l none (some (d : Int))).length + [35].length ≤ sizeLine ∧ ((cutT l none (some (d : Int))) ++ [35]).length + (cutT l (some (d : Int)) none).length ≤ sizeLine ∧ P (.str (cutT l none (some (d : Int)) ++ [35] ++ cutT l (some (d : Int)) none)) m
  rw [c1, c2]
  exact ⟨zL (by simp; omega), zL (by simp; omega), hz⟩
end
end AM
set_option maxHeartbeats 4000000
namespace AM
open PySem PySem.Spec PyProof.Rows L2 Eb
/-! ## what a lambda's deed comes to -/
theorem get_app {α : Type} {m g : List α} {i : Nat} {c : α} (h : m[i]? = some c) : (m ++ g)[i]? = some c := by
  rw [List.getElem?_append_left (List.getElem?_eq_some_iff.mp h).1]; exact h
structure Tb (m : Mem) : Prop where
  t0 : m[0]? = some (.tab "_law_refused_right" (ql "_law_refused_right"))
  t1 : m[1]? = some (.tab "_law_filled_right" (ql "_law_filled_right"))
  t2 : m[2]? = some (.tab "_law_added_right" (ql "_law_added_right"))
theorem Tb.grow {m : Mem} (h : Tb m) (g : Mem) : Tb (m ++ g) := ⟨get_app h.t0, get_app h.t1, get_app h.t2⟩
section
variable {m : Mem} {P : PX} {Fx : FX} {p : Nat}
theorem okm2 {s : List Nat} {v : T} (h1 : s.length ≤ 300) (h2 : ∀ c ∈ s, c < 128) (h : OkM v) : ∀ x ∈ [T.str s, v], OkM x := fun x hx => by
  simp only [List.mem_cons, List.not_mem_nil, or_false] at hx
  rcases hx with rfl | rfl
  · exact okm_str h1 h2
  · exact h
theorem okmM : ∀ x ∈ [T.str (q "many"), .str (q "characters"), .int 20], OkM x := fun x hx => by
  simp only [List.mem_cons, List.not_mem_nil, or_false] at hx
  rcases hx with rfl | rfl | rfl
  · exact okm_str (by decide) (by decide)
  · exact okm_str (by decide) (by decide)
  · exact okm_nat (n := 20) (by decide)
theorem said_pat {θ : Th} {v : T} {g : Mem} (ok : OkM v) (h : ∀ (Y : PX) (F' : FX), F' ("InvalidPattern", [("value", v)]) (m ++ g) → θ m Y F') (hP : P (.str (repM (.lst [.str (q "pattern"), v]))) (m ++ g)) : F__law_said θ m P := by
  rw [F__law_said_eq]
  intro l R
  unfold B__law_said
  refine ⟨sz1, ⟨rfl, h _ _ ⟨(by decide : ("InvalidPattern" : String) ∈ Tx_exs), ?_⟩⟩⟩
  refine ⟨rfl, fun a dd => ?_⟩
  refine ⟨rfl, rfl, rfl, sz2, ?_⟩
  exact repM_ok (xs := [.str (q "pattern"), v]) (okm2 (by decide) (by decide) ok) (by simp) hP
theorem said_cnt {θ : Th} {v : T} (ok : OkM v) (h : ∀ (Y : PX) (F' : FX), F' ("InvalidCount", [("value", v)]) m → θ m Y F') (hP : P (.str (repM (.lst [.str (q "count"), v]))) m) : F__law_said θ m P := by
  rw [F__law_said_eq]
  intro l R
  unfold B__law_said
  refine ⟨sz1, ⟨rfl, h _ _ ⟨(by decide : ("InvalidCount" : String) ∈ Tx_exs), ?_⟩⟩⟩
  refine ⟨rfl, fun a dd => ?_⟩
  refine ⟨rfl, rfl, rfl, sz2, ?_⟩
  exact repM_ok (xs := [.str (q "count"), v]) (okm2 (by decide) (by decide) ok) (by simp) hP
theorem said_many {θ : Th} (h : ∀ (Y : PX) (F' : FX), F' ("TooMany", [("limit", .int 20), ("what", .str (q "characters"))]) m → θ m Y F') (hP : P (.str (repM (.lst [.str (q "many"), .str (q "characters"), .int 20]))) m) : F__law_said θ m P := by
  rw [F__law_said_eq]
  intro l R
  unfold B__law_said
  refine ⟨sz1, ⟨rfl, h _ _ ⟨(by decide : ("TooMany" : String) ∈ Tx_exs), ?_⟩⟩⟩
  refine ⟨rfl, fun a dd => ?_⟩
  refine ⟨rfl, rfl, rfl, rfl, rfl, rfl, sz3, ?_⟩
  exact repM_ok (xs := [.str (q "many"), .str (q "characters"), .int 20]) okmM (by simp) hP
/-! ## texts that are none of patterns -/
structure NoPat (t : T) : Prop where
  bas : Bas t
  no : patT t = false
  ok : OkM t
abbrev flt (l : List Nat) : List Nat := l.filter fun c => c != 35
theorem flt_ok {l : List Nat} (h : l.all okc = true) : flt l = l := List.filter_eq_self.mpr fun c hc => by
  have := okc_ne (List.all_eq_true.mp h c hc)
  simpa using this
theorem pl_long {l : List Nat} (h : 20 < l.length) : patL l = false := by
  unfold patL
  rw [show decide (l.length ≤ 20) = false from decide_eq_false (by omega)]; rfl
theorem pl_cnt {l : List Nat} (h : (flt l).length + 1 ≠ l.length) : patL l = false := by
  unfold patL
  rw [show decide (((l.filter fun c => c != 35).length : Int) = (l.length : Int) - 1) = false from decide_eq_false (by have : ((flt l).length : Nat) + 1 ≠ l.length := h; unfold flt at this; omega)]
  simp
theorem pl_bad {l : List Nat} {c : Nat} (hm : c ∈ l) (h35 : c ≠ 35) (hc : okc c = false) : patL l = false := by
  have : (l.filter fun c => c != 35).all okc = false := by
    rw [List.all_eq_false]
    exact ⟨c, List.mem_filter.mpr ⟨hm, by simpa using h35⟩, by rw [hc]; decide⟩
  unfold patL
  rw [this]
  simp
theorem split_pt {x : Pt} (w : x.Ok) : splitC x.txt 35 = [x.a, x.b] := by
  refine join_uniq (c := 35) splitC_ne (by simp) splitC_free (fun p hp => ?_) ?_
  · simp only [List.mem_cons, List.not_mem_nil, or_false] at hp
    rcases hp with rfl | rfl
    · exact no_hash w.a
    · exact no_hash w.b
  · rw [splitC_join]
    simp [joinT, Pt.txt]
theorem txt_cs {x : Pt} (w : x.Ok) : ∀ c ∈ x.txt, c < 128 := fun c hc => by
  unfold Pt.txt at hc
  simp only [List.mem_append, List.mem_cons] at hc
  rcases hc with h | h | h
  · exact okc_128 (List.all_eq_true.mp w.a c h)
  · omega
  · exact okc_128 (List.all_eq_true.mp w.b c h)
theorem pt_len {x : Pt} (w : x.Ok) : x.txt.length = x.a.length + x.b.length + 1 ∧ x.txt.length ≤ 20 := by
  have := w.len
  constructor
  · simp [Pt.txt]; omega
  · simp [Pt.txt]; omega
theorem np_str {l : List Nat} (h : patL l = false) (hl : l.length ≤ 300) (hc : ∀ c ∈ l, c < 128) : NoPat (.str l) := ⟨trivial, h, okm_str hl hc⟩
theorem mem_app {l r : List Nat} {b : Nat} (h1 : ∀ c ∈ l, c < b) (h2 : ∀ c ∈ r, c < b) : ∀ c ∈ l ++ r, c < b := fun c hc => (List.mem_append.mp hc).elim (h1 c) (h2 c)
/-- the values of the law's list -/
theorem vals_np {x : Pt} (w : x.Ok) : ∀ t ∈ [T.non, .int 5, .bl true, .lst [], .lst [.str x.txt], .tup [.str x.txt], .dct [], .str [], .str (x.a ++ x.b), .str (x.txt ++ [35]), .str [35, 35], .str ([35] ++ x.txt), .str (x.txt ++ [34]), .str ([92] ++ x.txt), .str (x.txt ++ List.replicate (21 - x.txt.length) 98), .str (x.txt ++ [10]), .str ([10] ++ x.txt)], NoPat t := by
  intro t ht
  obtain ⟨l1, l2⟩ := pt_len w
  have cs := txt_cs w
  have fl := flt_pt w
  have fl : flt x.txt = x.a ++ x.b := fl
  simp only [List.mem_cons, List.not_mem_nil, or_false] at ht
  rcases ht with rfl | rfl | rfl | rfl | rfl | rfl | rfl | rfl | rfl | rfl | rfl | rfl | rfl | rfl | rfl | rfl | rfl
  · exact ⟨trivial, rfl, okm_non⟩
  · exact ⟨trivial, rfl, okm_nat (n := 5) (by decide)⟩
  · exact ⟨trivial, rfl, okm_bl⟩
  · exact ⟨trivial, rfl, okm_lst0⟩
  · exact ⟨trivial, rfl, okm_lst1 (by omega) cs⟩
  · exact ⟨trivial, rfl, okm_tup1 (by omega) cs⟩
  · exact ⟨trivial, rfl, okm_dct⟩
  · exact np_str (by decide) (by decide) (by simp)
  · have ha : (x.a ++ x.b).all okc = true := by rw [List.all_append, w.a, w.b]; rfl
    exact np_str (pl_cnt (by rw [flt_ok ha]; omega)) (by simp; omega) fun c hc => okc_128 (List.all_eq_true.mp ha c hc)
  · exact np_str (pl_cnt (by show (List.filter _ _).length + 1 ≠ _; rw [List.filter_append]; simp only [List.length_append]; rw [show List.filter (fun c => c != 35) x.txt = x.a ++ x.b from fl]; simp; omega)) (by simp; omega) (mem_app cs (by decide))
  · exact np_str (by decide) (by decide) (by decide)
  · exact np_str (pl_cnt (by show (List.filter _ _).length + 1 ≠ _; rw [List.filter_append]; simp only [List.length_append]; rw [show List.filter (fun c => c != 35) x.txt = x.a ++ x.b from fl]; simp; omega)) (by simp; omega) (mem_app (by decide) cs)
  · exact np_str (pl_bad (c := 34) (by simp) (by decide) (by decide)) (by simp; omega) (mem_app cs (by decide))
  · exact np_str (pl_bad (c := 92) (by simp) (by decide) (by decide)) (by simp; omega) (mem_app (by decide) cs)
  · exact np_str (pl_long (by simp; omega)) (by simp; omega) (mem_app cs fun c hc => by rw [List.eq_of_mem_replicate hc]; decide)
  · exact np_str (pl_bad (c := 10) (by simp) (by decide) (by decide)) (by simp; omega) (mem_app cs (by decide))
  · exact np_str (pl_bad (c := 10) (by simp) (by decide) (by decide)) (by simp; omega) (mem_app (by decide) cs)
end
end AM
set_option maxHeartbeats 4000000
namespace AM
open PySem PySem.Spec PyProof.Rows L2 Eb
abbrev rfB : AS := (sSeq (sIf (aTest (a2 neA (aSaid 0 "_law_refused_right" (ql "_law_refused_right") F__law_said (aMakeF "Pattern" F_Pattern_init [] (aCons (aVar 4) aNil))) (aL repMA (aCons (aLst (aCons (aC (.str (q "pattern"))) (aCons (aVar 4) aNil))) aNil))))
  (sRet (aC (.bl false)))
  sNil)
  (sIf (aTest (a2 neA (aSaid 0 "_law_refused_right" (ql "_law_refused_right") F__law_said (aMakeK "Pattern" F_Pattern_init [] [0, 1] (aCons (aVar 4) aNil))) (aL repMA (aCons (aLst (aCons (aC (.str (q "pattern"))) (aCons (aVar 4) aNil))) aNil))))
  (sRet (aC (.bl false)))
  sNil))
section
variable {m : Mem} {P : PX} {Fx : FX} {p : Nat}
theorem rf_loop {w : List Nat} {L : List T} {s2 s3 s4 : Option Sl} {ok : Mem → Prop} (hok : ∀ m, ok m) (hT : Tb m) (hL : ∀ x ∈ L, NoPat x) (hP : ∀ g, P (.bl true) (m ++ g)) : sFor1 ok (gN 4) rfB { (stop P Fx) with nx := (sRet (aC (.bl true))) (stop P Fx) } L [some (.v (.obj p)), some (.v (.str w)), s2, s3, s4] m := by
  have key := forJ (ok := ok) (g := gN 4) (p := rfB) (D := { (stop P Fx) with nx := (sRet (aC (.bl true))) (stop P Fx) }) (fun v : T => v)
    (fun L z m' => Tb m' ∧ (∃ g, m' = m ++ g) ∧ (∀ x ∈ L, NoPat x) ∧ ∃ s4, z = [some (.v (.obj p)), some (.v (.str w)), s2, s3, s4]) (fun t L z m' J => ?_) (fun z m' J => ?_) L _ m ⟨hT, ⟨[], by simp⟩, hL, s4, rfl⟩
  · rw [List.map_id'] at key
    exact key
  · obtain ⟨tb, ⟨g, rfl⟩, hL, s4, rfl⟩ := J
    have nt := hL t List.mem_cons_self
    refine ⟨hok _, fun N hN => ?_⟩
    refine ⟨tb.t0, said_pat (v := t) (g := [.ins "Pattern" []]) nt.ok (fun Y F' h => Pattern_init_no nt.bas nt.no h) ?_⟩
    refine ⟨sz2, okm_S (okm2 (by decide) (by decide) nt.ok), okm_W (okm2 (by decide) (by decide) nt.ok) (by simp), ?_⟩
    refine ⟨shpT, shpT, ifne ?_⟩
    refine ⟨(tb.grow _).t0, said_pat (v := t) (g := [.ins "Pattern" []]) nt.ok (fun Y F' h => Pattern_init_no nt.bas nt.no h) ?_⟩
    refine ⟨sz2, okm_S (okm2 (by decide) (by decide) nt.ok), okm_W (okm2 (by decide) (by decide) nt.ok) (by simp), ?_⟩
    refine ⟨shpT, shpT, ifne ?_⟩
    exact hN _ _ ⟨(tb.grow _).grow _, ⟨g ++ [.ins "Pattern" []] ++ [.ins "Pattern" []], by simp [List.append_assoc]⟩, fun x hx => hL x (List.mem_cons_of_mem _ hx), _, rfl⟩
  · obtain ⟨tb, ⟨g, rfl⟩, hL, s4, rfl⟩ := J
    exact ⟨hok _, hP _⟩
theorem refused_ok {x : Pt} (w : x.Ok) (hT : Tb m) (hP : ∀ g, P (.bl true) (m ++ g)) : F__law_refused_right [.obj p, .str x.txt] m P Fx := by
  obtain ⟨l1, l2⟩ := pt_len w
  rw [F__law_refused_right_eq]
  unfold B__law_refused_right
  rw [qh, show q "" = [] by decide, show q "\"" = [34] by decide, show q "\\" = [92] by decide, show q "b" = [98] by decide, show q "\n" = [10] by decide, show q "##" = [35, 35] by decide]
  refine ⟨trivial, trivial, zL (by omega), ?_, ?_⟩
  · show (splitC x.txt 35).length ≤ sizeLine
    rw [split_pt w]
    exact zL (by simp)
  dsimp only [aNil]
  rw [split_pt w]
  refine joins_ok (ls := [x.a, x.b]) (by simp; omega) ?_
  rw [show joinT [] [x.a, x.b] = x.a ++ x.b from by simp [joinT]]
  refine ⟨by decide, sz1, sz1, zL (by simp; omega), zL (by simp; omega), (show 12 ≤ sizeLine by decide), ?_⟩
  refine ⟨zL (by simp; omega), zL (by simp; omega), sz2, zL (by simp), ?_⟩
  refine ⟨by omega, by omega, by simp, zL (by simp; omega), zL (by simp; omega), zL (by simp; omega), sz3, zL (by simp), ?_⟩
  have e : (List.replicate ((21 : Int) - (x.txt.length : Int)).toNat [98]).flatten = List.replicate (21 - x.txt.length) 98 := by
    rw [List.flatten_replicate_singleton, show ((21 : Int) - (x.txt.length : Int)).toNat = 21 - x.txt.length by omega]
  refine rf_loop (fun _ => okW_lst) hT (fun t ht => vals_np w t ?_) hP
  rw [← e]
  exact ht
end
end AM
set_option maxHeartbeats 4000000
namespace AM
open PySem PySem.Spec PyProof.Rows L2 Eb
section
variable {m : Mem} {P : PX} {Fx : FX} {p : Nat}
theorem zLB {k : Nat} (hk : k ≤ 3000) : k ≤ sizeLine := Nat.le_trans hk (by decide)
theorem power_ok {k : Nat} (hk : k ≤ 90) (h : P (.int ((10 ^ k : Nat) : Int)) m) : F__law_power [.int k] m P Fx := by
  rw [F__law_power_eq]
  unfold B__law_power
  refine ⟨by omega, by omega, ?_⟩
  show sFor1 _ _ _ _ (rngT 0 k) _ m
  refine forR (fun i z m' => m' = m ∧ ∃ s, z = [some (.v (.int k)), some (.v (.int ((10 ^ i : Nat) : Int))), s]) (fun i z m' hi J => ?_) (fun z m' J => ?_) ⟨rfl, none, rfl⟩
  · obtain ⟨rfl, s, rfl⟩ := J
    refine ⟨trivial, fun N hN => ?_⟩
    have e : (10 : Int) * ((10 ^ i : Nat) : Int) = ((10 ^ (i + 1) : Nat) : Int) := by rw [Nat.pow_succ, Nat.mul_comm, Int.natCast_mul]; rfl
    have := hN [some (.v (.int k)), some (.v (.int ((10 : Int) * ((10 ^ i : Nat) : Int)))), some (.v (.int (0 + (i : Int))))] m' ⟨rfl, _, by rw [e]⟩
    exact ⟨.inl (.inl ⟨by decide, by decide⟩), this⟩
  · obtain ⟨rfl, s, rfl⟩ := J
    exact ⟨trivial, h⟩
structure NoCnt (t : T) : Prop where
  bas : Bas t
  no : cntT t = false
  ok : OkM t
  ty : ∀ m, ∃ s, s ∈ bT ∧ tyT m t = some s
theorem no_counts_ok (h : ∀ L, (∀ t ∈ L, NoCnt t) → P (.lst L) m) : F__law_no_counts [] m P Fx := by
  rw [F__law_no_counts_eq]
  unfold B__law_no_counts
  refine ⟨sz1, by decide, ⟨by decide, by decide, by decide⟩, (show 10 ≤ sizeLine by decide), h _ fun t ht => ?_⟩
  simp only [List.mem_cons, List.not_mem_nil, or_false] at ht
  rcases ht with rfl | rfl | rfl | rfl | rfl | rfl | rfl | rfl | rfl | rfl
  · exact ⟨trivial, by decide, okm_neg (by decide +kernel) (by decide +kernel), fun m => ⟨"int", by decide, rfl⟩⟩
  · exact ⟨trivial, rfl, okm_bl, fun m => ⟨"bool", by decide, rfl⟩⟩
  · exact ⟨trivial, rfl, okm_bl, fun m => ⟨"bool", by decide, rfl⟩⟩
  · exact ⟨trivial, rfl, okm_non, fun m => ⟨"NoneType", by decide, rfl⟩⟩
  · exact ⟨trivial, rfl, okm_str (by decide) (by decide), fun m => ⟨"str", by decide, rfl⟩⟩
  · exact ⟨trivial, rfl, okm_str (by decide) (by decide), fun m => ⟨"str", by decide, rfl⟩⟩
  · exact ⟨trivial, rfl, okm_lstI (by decide), fun m => ⟨"list", by decide, rfl⟩⟩
  · exact ⟨trivial, rfl, okm_tup0, fun m => ⟨"tuple", by decide, rfl⟩⟩
  · exact ⟨trivial, rfl, okm_dct, fun m => ⟨"dict", by decide, rfl⟩⟩
  · exact ⟨trivial, by decide, okm_neg (by decide +kernel) (by decide +kernel), fun m => ⟨"int", by decide, rfl⟩⟩
theorem width_ok {x : Pt} (w : x.Ok) {d : Int} (hd : 0 ≤ d) (hb : d.natAbs.log2 < 1920) (h : P (.int (x.fill d).length) m) : F_Pattern_width [x.t, .int d] m P Fx := by
  rw [F_Pattern_width_eq]
  unfold B_Pattern_width
  refine ⟨rfl, Pattern_filled_ok w hd hb ?_⟩
  exact h
theorem logC {d : Nat} (h : d < 10 ^ 100) : ((d : Nat) : Int).natAbs.log2 < 1920 := by
  rw [Int.natAbs_natCast]
  rcases Nat.eq_zero_or_pos d with rfl | z
  · decide
  · refine Nat.lt_of_lt_of_le ((Nat.log2_lt (k := 340) (by omega)).mpr ?_) (by decide)
    exact Nat.lt_trans h (by decide)
theorem okm_strB {s : List Nat} (hs : s.length ≤ 2000) (hc : ∀ c ∈ s, c < 128) : OkM (.str s) := ⟨by simp, by
  have e := Sz.of (sh_str (tx s) (by rw [tx_list]; exact hc))
  rw [tx_len] at e
  exact e.le (by omega)⟩
theorem two_ok {a : T} (h : OkM a) : ∀ x ∈ [a, a], OkM x := fun x hx => by
  simp only [List.mem_cons, List.not_mem_nil, or_false] at hx
  rcases hx with rfl | rfl <;> exact h
abbrev fdB1 : AS := (sSeq (sSet 7 (a2 addT (a2 addT (aVar 3) (aL strA (aCons (aVar 6) aNil))) (aVar 4)))
  (sSeq (sIf (aTest (a2 neA (aL repMA (aCons (aLst (aCons (aMeth "Pattern" F_Pattern_filled [] (aVar 1) (aCons (aVar 6) aNil)) (aCons (aMethK "Pattern" F_Pattern_filled [0, 1] (aVar 1) (aCons (aVar 6) aNil)) aNil))) aNil)) (aL repMA (aCons (aLst (aCons (aVar 7) (aCons (aVar 7) aNil))) aNil))))
  (sRet (aC (.bl false)))
  sNil)
  (sIf (aTest (a2 neA (aL repMA (aCons (aLst (aCons (aMeth "Pattern" F_Pattern_width [] (aVar 1) (aCons (aVar 6) aNil)) (aCons (aMethK "Pattern" F_Pattern_width [0, 1] (aVar 1) (aCons (aVar 6) aNil)) aNil))) aNil)) (aL repMA (aCons (a2 mulT (aLst (aCons (aL lenA (aCons (aVar 7) aNil)) aNil)) (aC (.int 2))) aNil))))
  (sRet (aC (.bl false)))
  sNil)))
abbrev fdB2 : AS := (sSeq (sSet 7 (aL repMA (aCons (aLst (aCons (aC (.str (q "count"))) (aCons (aVar 8) aNil))) aNil)))
  (sSeq (sIf (aTest (a2 neA (aSaid 1 "_law_filled_right" (ql "_law_filled_right") F__law_said (aMeth "Pattern" F_Pattern_filled [] (aVar 1) (aCons (aVar 8) aNil))) (aVar 7)))
  (sRet (aC (.bl false)))
  sNil)
  (sIf (aTest (a2 neA (aSaid 1 "_law_filled_right" (ql "_law_filled_right") F__law_said (aMeth "Pattern" F_Pattern_width [] (aVar 1) (aCons (aVar 8) aNil))) (aVar 7)))
  (sRet (aC (.bl false)))
  sNil)))
abbrev fdE : AS := (sSeq (sFor (iA (aCall F__law_no_counts [] aNil)) (gN 8) fdB2) (sRet (aC (.bl true))))
theorem fd1_body {x : Pt} (w : x.Ok) {d : Nat} (hd : d < 10 ^ 100) {s2 s5 s7 s8 : Option Sl} {D : EA} (h : ∀ s7, D.nx [some (.v (.obj p)), some (.v x.t), s2, some (.v (.str x.a)), some (.v (.str x.b)), s5, some (.v (.int d)), s7, s8] m) :
    fdB1 D [some (.v (.obj p)), some (.v x.t), s2, some (.v (.str x.a)), some (.v (.str x.b)), s5, some (.v (.int d)), s7, s8] m := by
  have hb := logC hd
  have l1 := strI_len hb
  have l2 := w.len
  have fc := fill_cs w hb
  refine ⟨hb, zLB (by omega), zLB (by simp only [List.length_append]; omega), ?_⟩
  have go : ∀ s7, s7 = some (.v (.str (x.fill d))) → (sSeq (sIf (aTest (a2 neA (aL repMA (aCons (aLst (aCons (aMeth "Pattern" F_Pattern_filled [] (aVar 1) (aCons (aVar 6) aNil)) (aCons (aMethK "Pattern" F_Pattern_filled [0, 1] (aVar 1) (aCons (aVar 6) aNil)) aNil))) aNil)) (aL repMA (aCons (aLst (aCons (aVar 7) (aCons (aVar 7) aNil))) aNil))))
      (sRet (aC (.bl false)))
      sNil)
      (sIf (aTest (a2 neA (aL repMA (aCons (aLst (aCons (aMeth "Pattern" F_Pattern_width [] (aVar 1) (aCons (aVar 6) aNil)) (aCons (aMethK "Pattern" F_Pattern_width [0, 1] (aVar 1) (aCons (aVar 6) aNil)) aNil))) aNil)) (aL repMA (aCons (a2 mulT (aLst (aCons (aL lenA (aCons (aVar 7) aNil)) aNil)) (aC (.int 2))) aNil))))
      (sRet (aC (.bl false)))
      sNil)) D [some (.v (.obj p)), some (.v x.t), s2, some (.v (.str x.a)), some (.v (.str x.b)), s5, some (.v (.int d)), s7, s8] m := by
    rintro _ rfl
    have o1 : ∀ y ∈ [T.str (x.fill d), T.str (x.fill d)], OkM y := two_ok (okm_strB fc.1 fc.2)
    have o2 : ∀ y ∈ [T.int (x.fill d).length, T.int (x.fill d).length], OkM y := two_ok (okm_nat (Nat.lt_of_le_of_lt fc.1 (by decide)))
    refine ⟨rfl, Pattern_filled_ok w (by omega) hb ⟨rfl, Pattern_filled_ok w (by omega) hb ?_⟩⟩
    refine ⟨sz2, okm_S o1, okm_W o1 (by simp), ?_⟩
    refine ⟨sz2, okm_S o1, okm_W o1 (by simp), ?_⟩
    refine ⟨shpT, shpT, ifne ?_⟩
    refine ⟨rfl, width_ok w (by omega) hb ⟨rfl, width_ok w (by omega) hb ?_⟩⟩
    refine ⟨sz2, okm_S o2, okm_W o2 (by simp), ?_⟩
    refine ⟨sz1, by decide, by decide, (show 1 * 2 ≤ sizeLine by decide), okm_S o2, okm_W o2 (by simp), ?_⟩
    exact ⟨shpT, shpT, ifne (h _)⟩
  exact go _ rfl
end
end AM
set_option maxHeartbeats 4000000
namespace AM
open PySem PySem.Spec PyProof.Rows L2 Eb
section
variable {m : Mem} {P : PX} {Fx : FX} {p : Nat}
theorem fd2_loop {x : Pt} {L : List T} {s2 s3 s4 s5 s6 s7 s8 : Option Sl} {ok : Mem → Prop} (hok : ∀ m, ok m) (hT : Tb m) (hL : ∀ x ∈ L, NoCnt x) (hP : P (.bl true) m) : sFor1 ok (gN 8) fdB2 { (stop P Fx) with nx := (sRet (aC (.bl true))) (stop P Fx) } L [some (.v (.obj p)), some (.v x.t), s2, s3, s4, s5, s6, s7, s8] m := by
  have key := forJ (ok := ok) (g := gN 8) (p := fdB2) (D := { (stop P Fx) with nx := (sRet (aC (.bl true))) (stop P Fx) }) (fun v : T => v)
    (fun L z m' => m' = m ∧ (∀ x ∈ L, NoCnt x) ∧ ∃ s7 s8, z = [some (.v (.obj p)), some (.v x.t), s2, s3, s4, s5, s6, s7, s8]) (fun t L z m' J => ?_) (fun z m' J => ?_) L _ m ⟨rfl, hL, s7, s8, rfl⟩
  · rw [List.map_id'] at key
    exact key
  · obtain ⟨rfl, hL, s7, s8, rfl⟩ := J
    have nt := hL t List.mem_cons_self
    refine ⟨hok _, fun N hN => ?_⟩
    refine ⟨sz2, okm_S (okm2 (by decide) (by decide) nt.ok), okm_W (okm2 (by decide) (by decide) nt.ok) (by simp), ?_⟩
    refine ⟨hT.t1, said_cnt (v := t) nt.ok (fun Y F' h => ⟨rfl, filled_no nt.bas nt.no h⟩) ?_⟩
    refine ⟨shpT, shpT, ifne ?_⟩
    refine ⟨hT.t1, said_cnt (v := t) nt.ok (fun Y F' h => ⟨rfl, width_no nt.bas nt.no h⟩) ?_⟩
    refine ⟨shpT, shpT, ifne ?_⟩
    exact hN _ _ ⟨rfl, fun x hx => hL x (List.mem_cons_of_mem _ hx), _, _, rfl⟩
  · obtain ⟨rfl, hL, s7, s8, rfl⟩ := J
    exact ⟨hok _, hP⟩
theorem fdE_ok {x : Pt} {s2 s3 s4 s5 s6 s7 s8 : Option Sl} (hT : Tb m) (hP : P (.bl true) m) : fdE (stop P Fx) [some (.v (.obj p)), some (.v x.t), s2, s3, s4, s5, s6, s7, s8] m := by
  refine no_counts_ok fun L hL => ?_
  exact fd2_loop (fun _ => okW_lst) hT hL hP
theorem fd1_loop {x : Pt} (w : x.Ok) {L : List T} {s2 s5 s6 s7 s8 : Option Sl} {ok : Mem → Prop} (hok : ∀ m, ok m) (hT : Tb m) (hL : ∀ x ∈ L, ∃ d : Nat, d < 10 ^ 100 ∧ x = .int d) (hP : P (.bl true) m) : sFor1 ok (gN 6) fdB1 { (stop P Fx) with nx := fdE (stop P Fx) } L [some (.v (.obj p)), some (.v x.t), s2, some (.v (.str x.a)), some (.v (.str x.b)), s5, s6, s7, s8] m := by
  have key := forJ (ok := ok) (g := gN 6) (p := fdB1) (D := { (stop P Fx) with nx := fdE (stop P Fx) }) (fun v : T => v)
    (fun L z m' => m' = m ∧ (∀ x ∈ L, ∃ d : Nat, d < 10 ^ 100 ∧ x = .int d) ∧ ∃ s6 s7, z = [some (.v (.obj p)), some (.v x.t), s2, some (.v (.str x.a)), some (.v (.str x.b)), s5, s6, s7, s8]) (fun t L z m' J => ?_) (fun z m' J => ?_) L _ m ⟨rfl, hL, s6, s7, rfl⟩
  · rw [List.map_id'] at key
    exact key
  · obtain ⟨rfl, hL, s6, s7, rfl⟩ := J
    obtain ⟨d, hd, rfl⟩ := hL t List.mem_cons_self
    refine ⟨hok _, fun N hN => ?_⟩
    exact fd1_body w hd fun s7 => hN _ _ ⟨rfl, fun x hx => hL x (List.mem_cons_of_mem _ hx), _, _, rfl⟩
  · obtain ⟨rfl, hL, s6, s7, rfl⟩ := J
    exact ⟨hok _, fdE_ok hT hP⟩
theorem filled_ok {x : Pt} (w : x.Ok) (hT : Tb m) (hp : m[p]? = some .pot) (hP : P (.bl true) m) : F__law_filled_right [.obj p, x.t, .str x.txt] m P Fx := by
  obtain ⟨l1, l2⟩ := pt_len w
  rw [F__law_filled_right_eq]
  unfold B__law_filled_right
  rw [qh]
  refine ⟨trivial, zL (by omega), ?_, ?_⟩
  · show (splitC x.txt 35).length ≤ sizeLine
    rw [split_pt w]
    exact zL (by simp)
  dsimp only [gTL, asL, asX]
  rw [split_pt w]
  refine ⟨rfl, rfl, ?_⟩
  refine draw_ok hp (by omega) (by omega) fun d hd => ?_
  refine power_ok (k := d) (by omega) ?_
  have e9 : (10 : Int) ^ (9 : Int).toNat = 1000000000 := rfl
  refine ⟨⟨by decide, by decide, by decide⟩, draw_okB hp (by rw [e9]; decide) (by rw [e9]; decide) fun e he => ?_⟩
  rw [e9] at he
  refine ⟨.inl (.inl ⟨by omega, by omega⟩), (show 9 ≤ sizeLine by decide), ?_⟩
  have hpw : 10 ^ d ≤ 10 ^ 90 := Nat.pow_le_pow_right (by decide) (by omega)
  have hp0 : 0 < 10 ^ d := Nat.pow_pos (by decide)
  refine fd1_loop w (fun _ => okW_lst) hT (fun t ht => ?_) hP
  simp only [List.mem_cons, List.not_mem_nil, or_false] at ht
  rcases ht with rfl | rfl | rfl | rfl | rfl | rfl | rfl | rfl | rfl
  · exact ⟨0, by decide, rfl⟩
  · exact ⟨1, by decide, rfl⟩
  · exact ⟨9, by decide, rfl⟩
  · exact ⟨10, by decide, rfl⟩
  · exact ⟨99, by decide, rfl⟩
  · exact ⟨100, by decide, rfl⟩
  · exact ⟨10 ^ d, Nat.lt_of_le_of_lt hpw (by decide), rfl⟩
  · refine ⟨10 ^ d - 1, Nat.lt_of_le_of_lt (Nat.sub_le _ _) (Nat.lt_of_le_of_lt hpw (by decide)), ?_⟩
    rw [Int.ofNat_sub hp0]; rfl
  · refine ⟨e * 10 ^ d + 7, ?_, by rw [Int.natCast_add, Int.natCast_mul]; rfl⟩
    have h1 : e * 10 ^ d ≤ 10 ^ 9 * 10 ^ 90 := Nat.mul_le_mul (by omega) hpw
    exact Nat.lt_of_le_of_lt (Nat.add_le_add_right h1 7) (by decide)
end
end AM
set_option maxHeartbeats 4000000
namespace AM
open PySem PySem.Spec PyProof.Rows L2 Eb
section
variable {m : Mem} {P : PX} {Fx : FX} {p : Nat}
theorem ifneE {a b : List Nat} {A B : Prop} (e : a = b) (h : B) : if (!eqT (nrm m (.str a)) (nrm m (.str b))) = true then A else B := by subst e; exact ifne h
theorem eqT_int {a b : Int} : eqT (nrm m (.int a)) (nrm m (.int b)) = decide (a = b) := by
  by_cases h : a = b
  · subst h; simp [nrm, eqT]
  · simp [nrm, eqT, h]
theorem ifneI {a b : Int} {A B : Prop} (e : a = b) (h : B) : if (!eqT (nrm m (.int a)) (nrm m (.int b))) = true then A else B := by
  subst e
  rw [eqT_int]
  simpa using h
theorem ifneB {a b : Bool} {A B : Prop} (e : a = b) (h : B) : if (!eqT (nrm m (.bl a)) (nrm m (.bl b))) = true then A else B := by
  subst e
  have : eqT (nrm m (.bl a)) (nrm m (.bl a)) = true := by simp [nrm, eqT]
  rw [this]
  simpa using h
theorem shpN {i : Int} : Shp 60 (nrm m (.int i)) := by simp [nrm]
theorem shpB {b : Bool} : Shp 60 (nrm m (.bl b)) := by simp [nrm]
theorem pstr_ok {x : Pt} (h : P (.str x.txt) m) : F_Pattern_str [x.t] m P Fx := by
  rw [F_Pattern_str_eq]
  unfold B_Pattern_str
  exact h
theorem plen_ok {x : Pt} (w : x.Ok) (h : P (.int ((x.a ++ x.b).length : Nat)) m) : F_Pattern_len [x.t] m P Fx := by
  have := w.len
  rw [F_Pattern_len_eq]
  unfold B_Pattern_len
  exact ⟨zL (by omega), h⟩
/-- a value that is an instance of Pattern with this text -/
def PatV (m : Mem) (t : T) (l : List Nat) : Prop := ∃ fs, asI m t = some ("Pattern", fs) ∧ fs.lookup "own_text" = some (.str l)
theorem patv_t {x : Pt} : PatV m x.t x.txt := ⟨_, rfl, rfl⟩
theorem patv_ty {t : T} {l : List Nat} (h : PatV m t l) : tyT m t = some "Pattern" := by
  obtain ⟨fs, e, _⟩ := h
  cases t with
  | ins C gs => cases e; rfl
  | obj n =>
    simp only [asI] at e
    split at e
    · rename_i C gs e2; cases e; simp only [tyT, e2]
    · cases e
  | _ => cases e
theorem patv_cls {t : T} {l : List Nat} (h : PatV m t l) : clsIs m t "Pattern" := by
  obtain ⟨fs, e, _⟩ := h
  unfold clsIs
  rw [e]; rfl
theorem patv_scd {t : T} {l : List Nat} (h : PatV m t l) : scd anc "Pattern" (tyT m t) := by
  rw [patv_ty h]; exact (by decide : (subC anc "Pattern" "Pattern" && "Pattern" != "Pattern") = false)
theorem peq_ok {s t : T} {a b : List Nat} (hs : PatV m s a) (ht : PatV m t b) (h : P (.bl (decide (a = b))) m) : F_Pattern_eq [s, t] m P Fx := by
  have ty := patv_ty ht
  obtain ⟨fs, e1, e2⟩ := hs
  obtain ⟨gs, e3, e4⟩ := ht
  rw [F_Pattern_eq_eq]
  unfold B_Pattern_eq
  have eq : eqT (nrm m (.str a)) (nrm m (.str b)) = decide (a = b) := by simp [nrm, eqT]
  simp [fB, stA, ty, e1, e2, e3, e4, subC, Tru]
  rw [← eq] at h
  simpa [nrm] using h
theorem peq_no {s t : T} {n : String} (ty : tyT m t = some n) (hn : subC anc n "Pattern" = false) (h : P (.bl false) m) : F_Pattern_eq [s, t] m P Fx := by
  rw [F_Pattern_eq_eq]
  unfold B_Pattern_eq
  simp [fB, stA, ty, hn, Tru]
  exact h
theorem mkPatE {Q : PX} {x : Pt} {l : List Nat} (w : x.Ok) (e : l = x.txt) (h : ∀ fs, x.t = .ins "Pattern" fs → Belf 0 fs → Q .non (m ++ [.ins "Pattern" fs])) : F_Pattern_init [.obj m.length, .str l] (m ++ [.ins "Pattern" []]) Q Fx := by
  subst e; exact mkPatQ w h
abbrev adB1 : AS := (sSeq (sPar 5 6 (aCons (a2x (fAddL "Pattern" F_Pattern_add) (aVar 1) (aVar 4)) (aCons (a2x (fAddR "Pattern" F_Pattern_radd) (aVar 4) (aVar 1)) aNil)))
  (sSeq (sIf (aOrT (aTest (a2 neA (a1x (fStr "Pattern" F_Pattern_str) (aVar 5)) (a2 addT (aVar 2) (a2 mulT (aC (.str (q " "))) (aVar 4))))) (aTest (a2 neA (a1x (fStr "Pattern" F_Pattern_str) (aVar 6)) (a2 addT (a2 mulT (aC (.str (q " "))) (aVar 4)) (aVar 2)))))
  (sRet (aC (.bl false)))
  sNil)
  (sSeq (sIf (aOrT (aTest (a2 neA (a1x (fLen "Pattern" F_Pattern_len) (aVar 5)) (a2 addT (a1x (fLen "Pattern" F_Pattern_len) (aVar 1)) (aVar 4)))) (aTest (a2x (fNeG anc "Pattern" F_Pattern_eq) (aVar 5) (aMakeF "Pattern" F_Pattern_init [] (aCons (a2 addT (aVar 2) (a2 mulT (aC (.str (q " "))) (aVar 4))) aNil)))))
  (sRet (aC (.bl false)))
  sNil)
  (sIf (aTest (a2 neA (a2x (fEqG anc [("Pattern", F_Pattern_eq)]) (aVar 5) (aVar 1)) (a2 eqA (aVar 4) (aC (.int 0)))))
  (sRet (aC (.bl false)))
  sNil))))
abbrev adB2 : AS := (sSeq (sSet 7 (aL repMA (aCons (aLst (aCons (aC (.str (q "many"))) (aCons (aC (.str (q "characters"))) (aCons (aC (.int 20)) aNil)))) aNil)))
  (sSeq (sIf (aTest (a2 neA (aSaid 2 "_law_added_right" (ql "_law_added_right") F__law_said (a2x (fAddL "Pattern" F_Pattern_add) (aVar 1) (aVar 4))) (aVar 7)))
  (sRet (aC (.bl false)))
  sNil)
  (sIf (aTest (a2 neA (aSaid 2 "_law_added_right" (ql "_law_added_right") F__law_said (a2x (fAddR "Pattern" F_Pattern_radd) (aVar 4) (aVar 1))) (aVar 7)))
  (sRet (aC (.bl false)))
  sNil)))
abbrev adB3 : AS := (sSeq (sSet 7 (aL repMA (aCons (aLst (aCons (aC (.str (q "count"))) (aCons (aVar 8) aNil))) aNil)))
  (sSeq (sIf (aTest (a2 neA (aSaid 2 "_law_added_right" (ql "_law_added_right") F__law_said (a2x (fAddL "Pattern" F_Pattern_add) (aVar 1) (aVar 8))) (aVar 7)))
  (sRet (aC (.bl false)))
  sNil)
  (sIf (aTest (a2 neA (aSaid 2 "_law_added_right" (ql "_law_added_right") F__law_said (a2x (fAddR "Pattern" F_Pattern_radd) (aVar 8) (aVar 1))) (aVar 7)))
  (sRet (aC (.bl false)))
  sNil)))
abbrev adE3 : AS := (sSeq (sFor (iA (aCall F__law_no_counts [] aNil)) (gN 8) adB3) (sRet (aC (.bl true))))
abbrev adE2 : AS := (sSeq (sFor (iA (aLst (aCons (a2 addT (aVar 3) (aC (.int 1))) (aCons (a2 addT (aVar 3) (aC (.int 2))) (aCons (a2 powT (aC (.int 10)) (aC (.int 30))) aNil))))) (gN 4) adB2) adE3)
theorem ad3_loop {x : Pt} {L : List T} {s2 s3 s4 s5 s6 s7 s8 : Option Sl} {ok : Mem → Prop} (hok : ∀ m, ok m) (hT : Tb m) (hL : ∀ x ∈ L, NoCnt x) (hP : P (.bl true) m) : sFor1 ok (gN 8) adB3 { (stop P Fx) with nx := (sRet (aC (.bl true))) (stop P Fx) } L [some (.v (.obj p)), some (.v x.t), s2, s3, s4, s5, s6, s7, s8] m := by
  have key := forJ (ok := ok) (g := gN 8) (p := adB3) (D := { (stop P Fx) with nx := (sRet (aC (.bl true))) (stop P Fx) }) (fun v : T => v)
    (fun L z m' => m' = m ∧ (∀ x ∈ L, NoCnt x) ∧ ∃ s7 s8, z = [some (.v (.obj p)), some (.v x.t), s2, s3, s4, s5, s6, s7, s8]) (fun t L z m' J => ?_) (fun z m' J => ?_) L _ m ⟨rfl, hL, s7, s8, rfl⟩
  · rw [List.map_id'] at key
    exact key
  · obtain ⟨rfl, hL, s7, s8, rfl⟩ := J
    have nt := hL t List.mem_cons_self
    refine ⟨hok _, fun N hN => ?_⟩
    refine ⟨sz2, okm_S (okm2 (by decide) (by decide) nt.ok), okm_W (okm2 (by decide) (by decide) nt.ok) (by simp), ?_⟩
    refine ⟨hT.t2, said_cnt (v := t) nt.ok (fun Y F' h => ⟨rfl, nt.ty _, add_no nt.bas nt.no h⟩) ?_⟩
    refine ⟨shpT, shpT, ifne ?_⟩
    refine ⟨hT.t2, said_cnt (v := t) nt.ok (fun Y F' h => ⟨rfl, nt.ty _, radd_no nt.bas nt.no h⟩) ?_⟩
    refine ⟨shpT, shpT, ifne ?_⟩
    exact hN _ _ ⟨rfl, fun x hx => hL x (List.mem_cons_of_mem _ hx), _, _, rfl⟩
  · obtain ⟨rfl, hL, s7, s8, rfl⟩ := J
    exact ⟨hok _, hP⟩
theorem adE3_ok {x : Pt} {s2 s3 s4 s5 s6 s7 s8 : Option Sl} (hT : Tb m) (hP : P (.bl true) m) : adE3 (stop P Fx) [some (.v (.obj p)), some (.v x.t), s2, s3, s4, s5, s6, s7, s8] m := by
  refine no_counts_ok fun L hL => ?_
  exact ad3_loop (fun _ => okW_lst) hT hL hP
theorem ad2_loop {x : Pt} {L : List T} {s2 s3 s4 s5 s6 s7 s8 : Option Sl} {ok : Mem → Prop} (hok : ∀ m, ok m) (hT : Tb m) (hL : ∀ t ∈ L, ∃ i : Int, 0 ≤ i ∧ (20 : Int) < (x.txt.length : Int) + i ∧ t = .int i) (hP : P (.bl true) m) : sFor1 ok (gN 4) adB2 { (stop P Fx) with nx := adE3 (stop P Fx) } L [some (.v (.obj p)), some (.v x.t), s2, s3, s4, s5, s6, s7, s8] m := by
  have key := forJ (ok := ok) (g := gN 4) (p := adB2) (D := { (stop P Fx) with nx := adE3 (stop P Fx) }) (fun v : T => v)
    (fun L z m' => m' = m ∧ (∀ t ∈ L, ∃ i : Int, 0 ≤ i ∧ (20 : Int) < (x.txt.length : Int) + i ∧ t = .int i) ∧ ∃ s4 s7, z = [some (.v (.obj p)), some (.v x.t), s2, s3, s4, s5, s6, s7, s8]) (fun t L z m' J => ?_) (fun z m' J => ?_) L _ m ⟨rfl, hL, s4, s7, rfl⟩
  · rw [List.map_id'] at key
    exact key
  · obtain ⟨rfl, hL, s4, s7, rfl⟩ := J
    obtain ⟨i, i0, i1, rfl⟩ := hL t List.mem_cons_self
    refine ⟨hok _, fun N hN => ?_⟩
    refine ⟨sz3, okm_S okmM, okm_W okmM (by simp), ?_⟩
    refine ⟨hT.t2, said_many (fun Y F' h => ⟨rfl, ⟨"int", by decide, rfl⟩, add_many i0 i1 h⟩) ?_⟩
    refine ⟨shpT, shpT, ifne ?_⟩
    refine ⟨hT.t2, said_many (fun Y F' h => ⟨rfl, ⟨"int", by decide, rfl⟩, radd_many i0 i1 h⟩) ?_⟩
    refine ⟨shpT, shpT, ifne ?_⟩
    exact hN _ _ ⟨rfl, fun x hx => hL x (List.mem_cons_of_mem _ hx), _, _, rfl⟩
  · obtain ⟨rfl, hL, s4, s7, rfl⟩ := J
    exact ⟨hok _, adE3_ok hT hP⟩
theorem adE2_ok {x : Pt} (w : x.Ok) {s2 s4 s5 s6 s7 s8 : Option Sl} (hT : Tb m) (hP : P (.bl true) m) : adE2 (stop P Fx) [some (.v (.obj p)), some (.v x.t), s2, some (.v (.int (20 - (x.txt.length : Int)))), s4, s5, s6, s7, s8] m := by
  obtain ⟨l1, l2⟩ := pt_len w
  refine ⟨⟨by decide, by decide, by decide⟩, sz3, ?_⟩
  refine ad2_loop (fun _ => okW_lst) hT (fun t ht => ?_) hP
  simp only [List.mem_cons, List.not_mem_nil, or_false] at ht
  rcases ht with rfl | rfl | rfl
  · exact ⟨_, by omega, by omega, rfl⟩
  · exact ⟨_, by omega, by omega, rfl⟩
  · refine ⟨_, by decide, ?_, rfl⟩
    have : (10 : Int) ^ (30 : Int).toNat = 1000000000000000000000000000000 := rfl
    rw [this]; omega
theorem rep32 (n : Nat) : (List.replicate ((n : Nat) : Int).toNat [32]).flatten = List.replicate n 32 := by rw [List.flatten_replicate_singleton, Int.toNat_natCast]
theorem ad1_body {x : Pt} (w : x.Ok) {n : Nat} (hn : x.txt.length + n ≤ 20) {s3 s5 s6 s7 s8 : Option Sl} {D : EA} (h : ∀ s5 s6, D.nx [some (.v (.obj p)), some (.v x.t), some (.v (.str x.txt)), s3, some (.v (.int n)), s5, s6, s7, s8] m) :
    adB1 D [some (.v (.obj p)), some (.v x.t), some (.v (.str x.txt)), s3, some (.v (.int n)), s5, s6, s7, s8] m := by
  obtain ⟨l1, l2⟩ := pt_len w
  have wl := later_ok w hn
  have we := early_ok w hn
  have e1 : x.txt ++ (List.replicate ((n : Nat) : Int).toNat [32]).flatten = (x.later n).txt := by rw [rep32, txt_later]
  have e2 : (List.replicate ((n : Nat) : Int).toNat [32]).flatten ++ x.txt = (x.early n).txt := by rw [rep32, txt_early]
  have le : (List.replicate ((n : Nat) : Int).toNat [32]).flatten.length = n := by rw [rep32, List.length_replicate]
  unfold adB1
  rw [show q " " = [32] from by decide]
  refine ⟨rfl, ⟨"int", by decide, rfl⟩, add_ok w hn ⟨trivial, ?_⟩⟩
  refine ⟨rfl, ⟨"int", by decide, rfl⟩, radd_ok w hn ⟨trivial, ?_⟩⟩
  refine ⟨rfl, pstr_ok ⟨trivial, ?_⟩⟩
  refine ⟨by omega, by omega, by simp, zL (by rw [le]; omega), shpT, shpT, ifneE e1.symm ?_⟩
  refine ⟨rfl, pstr_ok ⟨trivial, ?_⟩⟩
  refine ⟨by omega, by omega, by simp, zL (by rw [le]; omega), shpT, shpT, ifneE e2.symm ?_⟩
  refine ⟨rfl, plen_ok wl ⟨⟨by omega, by have := wl.len; simp only [List.length_append]; omega⟩, ?_⟩⟩
  refine ⟨rfl, plen_ok w ⟨⟨by omega, by have := w.len; simp only [List.length_append]; omega⟩, ?_⟩⟩
  refine ⟨shpN, shpN, ifneI (by simp [Pt.later]; omega) ?_⟩
  refine ⟨by omega, by omega, by simp, zL (by rw [le]; omega), ?_⟩
  dsimp only [aNil]
  refine mkPatE wl e1 fun fs ef bf => ⟨rfl, fs, rfl, bf, ?_⟩
  rw [← ef]
  refine ⟨rfl, patv_scd patv_t, peq_ok patv_t patv_t ?_⟩
  rw [decide_eq_true rfl]
  refine ⟨rfl, patv_scd patv_t, peq_ok patv_t patv_t ⟨trivial, ?_⟩⟩
  refine ⟨shpN, shpN, ?_⟩
  refine ⟨shpB, shpB, ifneB ?_ (h _ _)⟩
  rw [eqT_int, decide_eq_decide]
  constructor
  · intro e
    have := congrArg List.length e
    simp [Pt.later, Pt.txt] at this
    omega
  · intro e
    have : n = 0 := by omega
    subst this
    simp [Pt.later]
theorem ad1_loop {x : Pt} (w : x.Ok) {L : List T} {s4 s5 s6 s7 s8 : Option Sl} {ok : Mem → Prop} (hok : ∀ m, ok m) (hT : Tb m) (hL : ∀ t ∈ L, ∃ n : Nat, x.txt.length + n ≤ 20 ∧ t = .int n) (hP : P (.bl true) m) : sFor1 ok (gN 4) adB1 { (stop P Fx) with nx := adE2 (stop P Fx) } L [some (.v (.obj p)), some (.v x.t), some (.v (.str x.txt)), some (.v (.int (20 - (x.txt.length : Int)))), s4, s5, s6, s7, s8] m := by
  have key := forJ (ok := ok) (g := gN 4) (p := adB1) (D := { (stop P Fx) with nx := adE2 (stop P Fx) }) (fun v : T => v)
    (fun L z m' => m' = m ∧ (∀ t ∈ L, ∃ n : Nat, x.txt.length + n ≤ 20 ∧ t = .int n) ∧ ∃ s4 s5 s6, z = [some (.v (.obj p)), some (.v x.t), some (.v (.str x.txt)), some (.v (.int (20 - (x.txt.length : Int)))), s4, s5, s6, s7, s8]) (fun t L z m' J => ?_) (fun z m' J => ?_) L _ m ⟨rfl, hL, s4, s5, s6, rfl⟩
  · rw [List.map_id'] at key
    exact key
  · obtain ⟨rfl, hL, s4, s5, s6, rfl⟩ := J
    obtain ⟨n, hn, rfl⟩ := hL t List.mem_cons_self
    refine ⟨hok _, fun N hN => ?_⟩
    exact ad1_body w hn fun s5 s6 => hN _ _ ⟨rfl, fun x hx => hL x (List.mem_cons_of_mem _ hx), _, _, _, rfl⟩
  · obtain ⟨rfl, hL, s4, s5, s6, rfl⟩ := J
    exact ⟨hok _, adE2_ok w hT hP⟩
theorem added_ok {x : Pt} (w : x.Ok) (hT : Tb m) (hp : m[p]? = some .pot) (hP : P (.bl true) m) : F__law_added_right [.obj p, x.t, .str x.txt] m P Fx := by
  obtain ⟨l1, l2⟩ := pt_len w
  rw [F__law_added_right_eq]
  unfold B__law_added_right
  refine draw_ok hp (by omega) (by omega) fun d hd => ?_
  refine ⟨sz3, ?_⟩
  refine ad1_loop w (fun _ => okW_lst) hT (fun t ht => ?_) hP
  simp only [List.mem_cons, List.not_mem_nil, or_false] at ht
  rcases ht with rfl | rfl | rfl
  · exact ⟨0, by omega, rfl⟩
  · exact ⟨20 - x.txt.length, by omega, by rw [Int.ofNat_sub l2]; rfl⟩
  · exact ⟨d, by omega, rfl⟩
end
end AM
set_option maxHeartbeats 4000000
namespace AM
open PySem PySem.Spec PyProof.Rows L2 Eb
/-! ## words -/
def wordT : T → Bool
  | .str l => decide (l.length ≤ 20) && l.all okc
  | _ => false
section
variable {m : Mem} {P : PX} {Fx : FX} {p : Nat}
theorem is_word_any {t : T} (b : Bas t) (h : P (.bl (wordT t)) m) : F_is_word [t] m P Fx := by
  cases t <;> first | exact is_word_str h | exact b.elim | simpa [fB, asS, asL, asX, asD, asI, tyT, subC, anc, itm, flatT, eqT, getI, nrm, Shp, wipeA, List.lookup, isTy, strs', putT, F_is_word_eq, B_is_word, wordT] using h
theorem word_okN {n : Nat} (hp : m[p]? = some .pot) (hn : n ≤ 40) (h : ∀ l : List Nat, l.all okc = true → l.length = n → P (.str l) m) : F__law_word [.obj p, .int n] m P Fx := by
  rw [F__law_word_eq]
  have key : aLc1 (fun _ => True) (cN 3) [3] aYes (aCall F__law_choice [] (aCons (aVar 0) (aCons (aVar 2) aNil))) [some (.v (.obj p)), some (.v (.int n)), some (.v (.str signs)), none]
      (fun x m1 => joinA (.str (q "")) [x] m1 P) [] (rngT 0 n) m := by
    unfold rngT
    refine lcJ (fun i : Nat => T.int (0 + (i : Int))) (fun r acc m' => m' = m ∧ ∃ cs : List Nat, acc = (cs.map fun c => [c]).map T.str ∧ cs.length + r.length = n ∧ cs.all okc = true) (fun i r acc m' hj => ?_) (fun r acc m' hj => ?_) (fun acc m' hj => ?_) (List.range n) [] m ⟨rfl, [], rfl, by simp, rfl⟩
    · obtain ⟨rfl, cs, rfl, hl, hc⟩ := hj
      refine ⟨trivial, fun Y N h1 h2 => ?_⟩
      have go : ∀ S : List Nat, S ≠ [] → S.length ≤ 1000 → S.all okc = true → F__law_choice [.obj p, .str S] m' Y (fun _ _ => False) := by
        intro S h0 hS hok
        refine pick_str hp h0 hS fun c hc' => ?_
        have ho := List.all_eq_true.mp hok c hc'
        refine h1 _ _ ⟨rfl, cs ++ [c], by simp, by simp at hl ⊢; omega, by simp [hc, ho]⟩ ?_
        exact Nat.lt_of_lt_of_le (by simp at hl ⊢; omega : _ < 50) (by decide)
      exact go signs signs_pos signs_len signs_ok
    · obtain ⟨_, cs, rfl, hl, _⟩ := hj
      exact Nat.lt_of_lt_of_le (by simp; omega : _ < 50) (by decide)
    · obtain ⟨rfl, cs, rfl, hl, hc⟩ := hj
      refine ⟨trivial, ?_⟩
      have e : joinT (q "") (cs.map fun c => [c]) = cs := by
        rw [show q "" = [] by decide, joinT_nil]
        clear hl hc
        induction cs with
        | nil => rfl
        | cons c cs ih => rw [List.map_cons, List.flatten_cons, ih]; rfl
      refine joins_ok ?_ (by rw [e]; exact h cs hc (by simpa using hl))
      have hq : (q "").length = 0 := by decide
      have hs : ((cs.map fun c => [c]).map List.length).sum = cs.length := by
        clear hl hc e
        induction cs with
        | nil => rfl
        | cons c cs ih => simp only [List.map_cons, List.sum_cons, ih, List.length_cons, List.length_nil]; omega
      rw [hs, hq]
      simp at hl ⊢
      omega
  refine ⟨trivial, ?_, ?_, key⟩
  · omega
  · omega
theorem word_okI {i : Int} {n : Nat} (e : i = (n : Int)) (hp : m[p]? = some .pot) (hn : n ≤ 40) (h : ∀ l : List Nat, l.all okc = true → l.length = n → P (.str l) m) : F__law_word [.obj p, .int i] m P Fx := by subst e; exact word_okN hp hn h
theorem wdT {l : List Nat} {c : Nat} (hc : okc c = false) (h : c ∈ l) : wordT (.str l) = false := by
  have : l.all okc = false := by
    rw [List.all_eq_false]
    exact ⟨c, h, by rw [hc]; decide⟩
  simp [wordT, this]
theorem wdL {l : List Nat} (h : 20 < l.length) : wordT (.str l) = false := by
  show (decide (l.length ≤ 20) && l.all okc) = false
  rw [show decide (l.length ≤ 20) = false from decide_eq_false (by omega)]; rfl
theorem splitC_size (l : List Nat) (c : Nat) : (splitC l c).length ≤ l.length + 1 := by
  have h : joinT [c] (splitC l c) = l := splitC_join l c
  have key : ∀ ps : List (List Nat), ps.length ≤ (joinT [c] ps).length + 1 := by
    intro ps
    induction ps with
    | nil => simp
    | cons x r ih =>
      cases r with
      | nil => simp
      | cons y s =>
        have e : joinT [c] (x :: y :: s) = x ++ [c] ++ joinT [c] (y :: s) := rfl
        rw [e]
        simp only [List.length_append, List.length_cons, List.length_nil] at ih ⊢
        omega
  have := key (splitC l c)
  rwa [h] at this
/-- what is_word tells False of -/
structure NoWd (t : T) : Prop where
  ok : ∀ (m : Mem) (P : PX) (Fx : FX), P (.bl false) m → F_is_word [t] m P Fx
theorem nowd_bas {t : T} (b : Bas t) (h : wordT t = false) : NoWd t := ⟨fun m P Fx hP => is_word_any b (by rw [h]; exact hP)⟩
theorem wr_loop {K : PX} {zz : SS} {L : List T} {ok : Mem → Prop} (hok : ok m) (hz : zz.length = 7) (hL : ∀ t ∈ L, NoWd t) (hl : L.length ≤ 1000) (h : K (.lst (L.map fun _ => T.bl false)) m) :
    aLc1 ok (cN 6) [6] aYes (aCall F_is_word [] (aCons (aVar 6) aNil)) zz K [] L m := by
  have := lcM (ok := ok) (g := cN 6) (vs := [6]) (e := aCall F_is_word [] (aCons (aVar 6) aNil)) (z := zz) (P := K) (m := m) L (fun t => t) (fun _ => T.bl false) hok (fun t ht Y hY => by
    have e6 : ((wipeA zz [6]).set 6 (some (.v t)))[6]? = some (some (.v t)) := by
      rw [List.getElem?_set_self]
      simp [wipeA, hz]
    simp only [cN, aCall, aCons, aVar, e6, aNil]
    exact (hL t ht).ok _ _ _ hY) (zL hl) h
  rwa [List.map_id'] at this
abbrev wrE : AS := (sRet (a2 eqA (aL repMA (aCons (aLc (iA (aVar 5)) (cN 6) [6] aYes (aCall F_is_word [] (aCons (aVar 6) aNil))) aNil)) (aL repMA (aCons (a2 mulT (aLst (aCons (aC (.bl false)) aNil)) (aL lenA (aCons (aVar 5) aNil))) aNil))))
theorem wrE_ok {L : List T} {s0 s1 s2 s3 s4 s6 : Option Sl} (hL : ∀ t ∈ L, NoWd t) (hl : L.length ≤ 100) (h : P (.bl true) m) : wrE (stop P Fx) [s0, s1, s2, s3, s4, some (.v (.lst L)), s6] m := by
  refine wr_loop okW_lst rfl hL (by omega) ?_
  have e : (List.replicate ((L.length : Nat) : Int).toNat [T.bl false]).flatten = L.map fun _ => T.bl false := by
    rw [List.flatten_replicate_singleton, Int.toNat_natCast]
    exact (List.map_const' ..).symm
  have o : ∀ x ∈ L.map fun _ => T.bl false, OkM x := fun x hx => by
    obtain ⟨_, _, rfl⟩ := List.mem_map.mp hx
    exact okm_bl
  have ol : (L.map fun _ => T.bl false).length ≤ 300 := by rw [List.length_map]; omega
  refine ⟨okm_S o, okm_W o ol, sz1, by omega, by omega, zL (by simp; omega), ?_⟩
  dsimp only [aNil]
  rw [e]
  refine ⟨okm_S o, okm_W o ol, ?_⟩
  exact eqA_same h
theorem wr_sign {w : List Nat} {c d : Nat} (hc : okc c = false) (h : P (.bl false) m) (hl : (w.take d ++ [c] ++ w.drop d).length ≤ 100) : F_is_word [.str (w.take d ++ [c] ++ w.drop d)] m P Fx :=
  is_word_any (t := .str _) trivial (by rw [wdT hc (by simp)]; exact h)
theorem words_ok (hp : m[p]? = some .pot) (hP : P (.bl true) m) : F__law_words_right [.obj p] m P Fx := by
  rw [F__law_words_right_eq]
  unfold B__law_words_right
  rw [qh, show q "\"" = [34] by decide, show q "\\" = [92] by decide, show q " " = [32] by decide]
  refine any_ok hp fun w ww => ?_
  have wl := ww.len
  refine is_word_wd ww ?_
  refine is_word_wd ww ?_
  refine draw_ok hp (by omega) (by omega) fun d hd => ?_
  have c1 : cutT w none (some (d : Int)) = w.take d := by rw [cutT_to]
  have c2 : cutT w (some (d : Int)) none = w.drop d := by rw [cutT_from]
  have step : ∀ (c : Nat) (K : PX), okc c = false → K (.bl false) m → (cutT w none (some (d : Int))).length + [c].length ≤ sizeLine ∧ (cutT w none (some (d : Int)) ++ [c]).length + (cutT w (some (d : Int)) none).length ≤ sizeLine ∧ F_is_word [.str (cutT w none (some (d : Int)) ++ [c] ++ cutT w (some (d : Int)) none)] m K Fx := by
    intro c K hc hK
    rw [c1, c2]
    exact ⟨zL (by simp; omega), zL (by simp; omega), wr_sign hc hK (by simp; omega)⟩
  refine ⟨sz3, ?_⟩
  refine ⟨okW_lst, step 35 _ (by decide) ?_⟩
  refine ⟨okW_lst, step 34 _ (by decide) ?_⟩
  refine ⟨okW_lst, step 92 _ (by decide) ?_⟩
  refine ⟨okW_lst, ?_⟩
  refine draw_ok hp (by omega) (by omega) fun e he => ?_
  refine word_okI (i := 21 + (e : Int)) (n := 21 + e) (by omega) hp (by omega) fun l hl hll => ?_
  have zz := splitC_size w 32
  refine ⟨by decide, sz1, sz1, ?_⟩
  dsimp only [aNil]
  refine mkPatE (x := ⟨[], []⟩) ⟨by decide, rfl, rfl⟩ rfl fun fs ef bf => ⟨rfl, fs, rfl, bf, ?_⟩
  rw [← ef]
  refine ⟨trivial, zL (by omega), zL (by omega), (show 11 ≤ sizeLine by decide), ?_⟩
  refine wrE_ok (fun t ht => ?_) (by simp) hP
  simp only [List.mem_cons, List.not_mem_nil, or_false] at ht
  rcases ht with rfl | rfl | rfl | rfl | rfl | rfl | rfl | rfl | rfl | rfl | rfl
  · exact nowd_bas trivial (wdL (by omega))
  · exact nowd_bas trivial rfl
  · exact nowd_bas trivial rfl
  · exact nowd_bas trivial rfl
  · exact nowd_bas trivial rfl
  · exact nowd_bas trivial rfl
  · exact nowd_bas trivial rfl
  · exact nowd_bas trivial rfl
  · exact nowd_bas trivial rfl
  · exact ⟨fun m P Fx h => is_word_pt (p := ⟨[], []⟩) h⟩
  · exact nowd_bas trivial rfl
end
end AM
set_option maxHeartbeats 4000000
namespace AM
open PySem PySem.Spec PyProof.Rows L2 Eb
section
variable {m : Mem} {P : PX} {Fx : FX} {p : Nat}
structure Oth (m : Mem) (s t : T) : Prop where
  scd : scd anc "Pattern" (tyT m t)
  no : ∀ (P : PX) (Fx : FX), P (.bl false) m → F_Pattern_eq [s, t] m P Fx
theorem oth_ty {s t : T} {n : String} (ty : tyT m t = some n) (hn : subC anc n "Pattern" = false) : Oth m s t := ⟨by rw [ty]; show (subC anc n "Pattern" && n != "Pattern") = false; rw [hn]; rfl, fun P Fx h => peq_no ty hn h⟩
theorem oth_pt {x y : Pt} (h : x.txt ≠ y.txt) : Oth m x.t y.t := ⟨patv_scd patv_t, fun P Fx hP => peq_ok patv_t patv_t (by rw [decide_eq_false h]; exact hP)⟩
theorem eq_loop {x : Pt} {K : PX} {zz : SS} {L : List T} {ok : Mem → Prop} (hok : ok m) (hz : zz.length = 6) (h2 : zz[2]? = some (some (.v x.t))) (hL : ∀ t ∈ L, Oth m x.t t) (hl : L.length ≤ 1000) (h : K (.lst (L.map fun _ => T.bl false)) m) :
    aLc1 ok (cN 5) [5] aYes (a2x (fEqG anc [("Pattern", F_Pattern_eq)]) (aVar 2) (aVar 5)) zz K [] L m := by
  have := lcM (ok := ok) (g := cN 5) (vs := [5]) (e := a2x (fEqG anc [("Pattern", F_Pattern_eq)]) (aVar 2) (aVar 5)) (z := zz) (P := K) (m := m) L (fun t => t) (fun _ => T.bl false) hok (fun t ht Y hY => by
    have e5 : ((wipeA zz [5]).set 5 (some (.v t)))[5]? = some (some (.v t)) := by
      rw [List.getElem?_set_self]
      simp [wipeA, hz]
    have e2 : ((wipeA zz [5]).set 5 (some (.v t)))[2]? = some (some (.v x.t)) := by
      rw [List.getElem?_set_ne (by decide)]
      show (zz.set 5 none)[2]? = _
      rw [List.getElem?_set_ne (by decide)]
      exact h2
    simp only [cN, a2x, aVar, e5, e2]
    have o := hL t ht
    exact ⟨rfl, o.scd, o.no _ _ ⟨trivial, hY⟩⟩) (zL hl) h
  rwa [List.map_id'] at this
theorem ne_loop {x : Pt} {K : PX} {zz : SS} {L : List T} {ok : Mem → Prop} (hok : ok m) (hz : zz.length = 6) (h2 : zz[2]? = some (some (.v x.t))) (hL : ∀ t ∈ L, Oth m x.t t) (hl : L.length ≤ 1000) (h : K (.lst (L.map fun _ => T.bl true)) m) :
    aLc1 ok (cN 5) [5] aYes (a2x (fNeG anc "Pattern" F_Pattern_eq) (aVar 2) (aVar 5)) zz K [] L m := by
  have := lcM (ok := ok) (g := cN 5) (vs := [5]) (e := a2x (fNeG anc "Pattern" F_Pattern_eq) (aVar 2) (aVar 5)) (z := zz) (P := K) (m := m) L (fun t => t) (fun _ => T.bl true) hok (fun t ht Y hY => by
    have e5 : ((wipeA zz [5]).set 5 (some (.v t)))[5]? = some (some (.v t)) := by
      rw [List.getElem?_set_self]
      simp [wipeA, hz]
    have e2 : ((wipeA zz [5]).set 5 (some (.v t)))[2]? = some (some (.v x.t)) := by
      rw [List.getElem?_set_ne (by decide)]
      show (zz.set 5 none)[2]? = _
      rw [List.getElem?_set_ne (by decide)]
      exact h2
    simp only [cN, a2x, aVar, e5, e2]
    have o := hL t ht
    exact ⟨rfl, o.scd, o.no _ _ hY⟩) (zL hl) h
  rwa [List.map_id'] at this
theorem anyF {K : PX} {L : List T} (h : K (.bl false) m) : anyA [.lst (L.map fun _ => T.bl false)] m K := by
  have e : (L.any fun _ => false) = false := by rw [List.any_eq_false]; simp
  have b : bools (L.map fun _ => T.bl false) = some (L.map fun _ => false) := bools_map (f := fun _ => false)
  unfold anyA
  simp only [asL, asX, b]
  simpa [e] using h
theorem allT {K : PX} {L : List T} (h : K (.bl true) m) : allA [.lst (L.map fun _ => T.bl true)] m K := by
  have e : (L.all fun _ => true) = true := by rw [List.all_eq_true]; simp
  have b : bools (L.map fun _ => T.bl true) = some (L.map fun _ => true) := bools_map (f := fun _ => true)
  unfold allA
  simp only [asL, asX, b]
  simpa [e] using h
abbrev rgB : AS := (sSeq (sIf (aOrT (aTru (aL anyA (aCons (aLc (iA (aVar 4)) (cN 5) [5] aYes (a2x (fEqG anc [("Pattern", F_Pattern_eq)]) (aVar 2) (aVar 5))) aNil))) (aNotT (aTru (aL allA (aCons (aLc (iA (aVar 4)) (cN 5) [5] aYes (a2x (fNeG anc "Pattern" F_Pattern_eq) (aVar 2) (aVar 5))) aNil)))))
  (sRet (aC (.bl false)))
  sNil)
  (sSeq (sIf (aOrT (aNotT (aTru (aCall F__law_refused_right [] (aCons (aVar 0) (aCons (aVar 1) aNil))))) (aNotT (aTru (aCall F__law_filled_right [] (aCons (aVar 0) (aCons (aVar 2) (aCons (aVar 1) aNil)))))))
  (sRet (aC (.bl false)))
  sNil)
  (sRet (aAnd (aCall F__law_added_right [] (aCons (aVar 0) (aCons (aVar 2) (aCons (aVar 1) aNil)))) (aAnd (a2 eqA (a1x (fStr "Pattern" F_Pattern_str) (aVar 2)) (aVar 1)) (aCall F__law_words_right [] (aCons (aVar 0) aNil)))))))
theorem rgB_ok {x : Pt} {L : List T} {s3 s5 : Option Sl} (w : x.Ok) (hT : Tb m) (hp : m[p]? = some .pot) (hL : ∀ t ∈ L, Oth m x.t t) (hl : L.length ≤ 1000) (hP : ∀ m', Tb m' → P (.bl true) m') : rgB (stop P Fx) [some (.v (.obj p)), some (.v (.str x.txt)), some (.v x.t), s3, some (.v (.lst L)), s5] m := by
  refine eq_loop okW_lst rfl rfl hL hl ?_
  dsimp only [aNil]
  refine anyF ?_
  refine ne_loop okW_lst rfl rfl hL hl ?_
  dsimp only [aNil]
  refine allT ?_
  refine refused_ok w hT fun g => ?_
  refine filled_ok w (hT.grow g) (get_app hp) ?_
  refine added_ok w (hT.grow g) (get_app hp) ?_
  refine ⟨rfl, pstr_ok ⟨trivial, ?_⟩⟩
  dsimp only [aVar, List.getElem?_cons_succ, List.getElem?_cons_zero]
  refine eqA_same ?_
  exact words_ok (get_app hp) (hP _ (hT.grow g))
abbrev rgA : AS := (sSeq (sIf (aOrT (aTest (a2 neA (aL repA (aCons (aLst (aCons (a1x (fStr "Pattern" F_Pattern_str) (aVar 2)) (aCons (a1x (fLen "Pattern" F_Pattern_len) (aVar 2)) aNil))) aNil)) (aL repA (aCons (aLst (aCons (aVar 1) (aCons (a2 subT (aL lenA (aCons (aVar 1) aNil)) (aC (.int 1))) aNil))) aNil)))) (aOrT (aTest (a2x (fNeG anc "Pattern" F_Pattern_eq) (aVar 2) (aVar 3))) (aNotT (aTest (a2x (fEqG anc [("Pattern", F_Pattern_eq)]) (aVar 2) (aVar 3))))))
  (sRet (aC (.bl false)))
  sNil)
  (sSeq (sSet 4 (aLst (aCons (aVar 1) (aCons (aC .non) (aCons (aC (.int 5)) (aCons (aTup (aCons (aVar 1) aNil)) (aCons (aMakeF "Pattern" F_Pattern_init [] (aCons (aIf (aTest (a2 neA (aVar 1) (aC (.str [35])))) (aC (.str [35])) (aC (.str [35, 32]))) aNil)) (aCons (aLst (aCons (aVar 2) aNil)) aNil)))))))) rgB))
theorem rgA_ok {x : Pt} {v : T} (w : x.Ok) (hT : Tb m) (hp : m[p]? = some .pot) (hv : PatV m v x.txt) (hP : ∀ m', Tb m' → P (.bl true) m') : rgA (stop P Fx) [some (.v (.obj p)), some (.v (.str x.txt)), some (.v x.t), some (.v v), none, none] m := by
  obtain ⟨l1, l2⟩ := pt_len w
  have o1 : ∀ (k : Nat), k ≤ 100 → ∀ t ∈ [T.str x.txt, T.int k], Okr t := fun k hk t ht => by
    simp only [List.mem_cons, List.not_mem_nil, or_false] at ht
    rcases ht with rfl | rfl
    · exact okr_str (by omega) (txt_cs w)
    · exact okr_int (Nat.lt_of_le_of_lt hk (by decide))
  have hz : ∀ t ∈ [T.str x.txt, .non, .int 5, .tup [.str x.txt]] ++ [.lst [x.t]], Oth m x.t t := fun t ht => by
    simp only [List.mem_append, List.mem_cons, List.not_mem_nil, or_false] at ht
    rcases ht with (rfl | rfl | rfl | rfl) | rfl
    · exact oth_ty (n := "str") rfl (by decide)
    · exact oth_ty (n := "NoneType") rfl (by decide)
    · exact oth_ty (n := "int") rfl (by decide)
    · exact oth_ty (n := "tuple") rfl (by decide)
    · exact oth_ty (n := "list") rfl (by decide)
  have la : (x.a ++ x.b).length = x.txt.length - 1 := by rw [List.length_append]; omega
  have ei : ((x.txt.length : Int) - 1) = ((x.txt.length - 1 : Nat) : Int) := by omega
  refine ⟨rfl, pstr_ok ⟨trivial, rfl, plen_ok w ⟨⟨by omega, by rw [la]; omega⟩, ?_⟩⟩⟩
  rw [la]
  refine ⟨sz2, okr_S (o1 _ (by omega)), okr_W (o1 _ (by omega)) (by simp), ?_⟩
  dsimp only [aL, aCons, aLst, aVar, a2, aC, subT, lenA, aNil, List.getElem?_cons_succ, List.getElem?_cons_zero]
  rw [ei]
  refine ⟨sz2, okr_S (o1 _ (by omega)), okr_W (o1 _ (by omega)) (by simp), ?_⟩
  refine ⟨shpT, shpT, ifne ?_⟩
  refine ⟨rfl, patv_scd hv, peq_ok patv_t hv ?_⟩
  rw [decide_eq_true rfl]
  refine ⟨rfl, patv_scd hv, peq_ok patv_t hv ⟨trivial, ?_⟩⟩
  rw [decide_eq_true rfl]
  have fin : ∀ y : Pt, y.Ok → x.txt ≠ y.txt → rgB (stop P Fx) [some (.v (.obj p)), some (.v (.str x.txt)), some (.v x.t), some (.v v), some (.v (.lst [T.str x.txt, .non, .int 5, .tup [.str x.txt], y.t, .lst [x.t]])), none] m := fun y wy ne => by
    refine rgB_ok w hT hp (fun t ht => ?_) (by simp) hP
    simp only [List.mem_cons, List.not_mem_nil, or_false] at ht
    rcases ht with rfl | rfl | rfl | rfl | rfl | rfl
    · exact hz _ (by simp)
    · exact hz _ (by simp)
    · exact hz _ (by simp)
    · exact hz _ (by simp)
    · exact oth_pt ne
    · exact hz _ (by simp)
  refine ⟨sz1, shpT, shpT, ifI (fun hc => ?_) fun hc => ?_⟩
  · dsimp only [aNil]
    refine mkPatE (x := ⟨[], []⟩) ⟨by decide, rfl, rfl⟩ rfl fun fs ef bf => ⟨rfl, fs, rfl, bf, ?_⟩
    rw [← ef]
    refine ⟨sz1, (show 6 ≤ sizeLine by decide), ?_⟩
    exact fin ⟨[], []⟩ ⟨by decide, rfl, rfl⟩ fun e => neS hc e
  · dsimp only [aNil]
    refine mkPatE (x := ⟨[], [32]⟩) ⟨by decide, rfl, by decide⟩ rfl fun fs ef bf => ⟨rfl, fs, rfl, bf, ?_⟩
    rw [← ef]
    refine ⟨sz1, (show 6 ≤ sizeLine by decide), ?_⟩
    refine fin ⟨[], [32]⟩ ⟨by decide, rfl, by decide⟩ fun e => hc ?_
    rw [e]
    simp [nrm, eqT, Pt.txt]
theorem right_ok (hT : Tb m) (hp : m[p]? = some .pot) (hP : ∀ m', Tb m' → P (.bl true) m') : F__law_right [.obj p] m P Fx := by
  rw [F__law_right_eq]
  unfold B__law_right
  rw [qh, show q "# " = [35, 32] by decide]
  refine pat_ok hp fun x w => ?_
  dsimp only [aNil]
  refine mkPatE w rfl fun fs ef bf => ⟨rfl, fs, rfl, bf, ?_⟩
  rw [← ef]
  dsimp only [aNil]
  refine mkPatE w rfl fun gs eg bg => ⟨rfl, ?_⟩
  refine ⟨sz2, rfl, rfl, ?_⟩
  have hv : PatV (m ++ [.ins "Pattern" gs]) (.obj m.length) x.txt := ⟨gs, by simp [asI], by cases eg; rfl⟩
  exact rgA_ok w (hT.grow _) (get_app hp) hv hP
end
theorem rng_ok {m : Mem} {P : PX} {Fx : FX} {ns : List Int} {k : Int} (h0 : 0 ≤ k) (h1 : k ≤ 1000000) (h : P (.obj m.length) (m ++ [.pot])) : F__law_rng [.scr ns, .int k] m P Fx := by rw [F__law_rng_eq]; exact ⟨h0, h1, h⟩
theorem law_true (ns : List Int) (hl : ns.length ≤ 63) : F_law [.scr ns] (mem0 ["_law_refused_right", "_law_filled_right", "_law_added_right"]) (fun t _ => t = .bl true) fun _ _ => False := by
  have ht : Tb (mem0 ["_law_refused_right", "_law_filled_right", "_law_added_right"]) := ⟨rfl, rfl, rfl⟩
  have b : ∀ x : Int, 0 ≤ x → 1 ≤ (if (if x < 5 then x else 5) > 1 then (if x < 5 then x else 5) else (1 : Int)) ∧ (if (if x < 5 then x else 5) > 1 then (if x < 5 then x else 5) else (1 : Int)) ≤ 5 := fun x hx => by
    by_cases h1 : x < 5
    · by_cases h2 : 1 < x
      · simp [h1, h2]; omega
      · simp [h1, h2]
    · simp [h1]
  have b2 := b ((ns.map T.int).length : Int) (by omega)
  have key : ∀ (n : Nat) (m : Mem), n ≤ 5 → Tb m → aLc1 (fun _ => True) (cN 1) [1] aYes (aCall F__law_right [] (aCons (aCall F__law_rng [] (aCons (aVar 0) (aCons (aVar 1) aNil))) aNil)) [some (.v (.scr ns)), none] (fun x m1 => allA [x] m1 fun t _ => t = .bl true) [] (rngT 0 n) m := by
    intro n m hn ht
    refine lcR (fun i acc m' => Tb m' ∧ acc = (List.replicate i true).map T.bl) (fun i acc m' hi J => ?_) (fun i acc m' hi J => ?_) (fun acc m' J => ?_) ⟨ht, rfl⟩
    · obtain ⟨tb, rfl⟩ := J
      refine ⟨trivial, fun Y N h1 h2 => ?_⟩
      refine rng_ok (by omega) (by omega) ?_
      refine right_ok (tb.grow _) (by simp) fun m2 t2 => ?_
      exact h1 _ _ ⟨t2, by rw [List.replicate_succ', List.map_append]; rfl⟩
    · obtain ⟨_, rfl⟩ := J
      simp
      exact Nat.lt_of_lt_of_le (by omega : i < 10) (by decide)
    · obtain ⟨_, rfl⟩ := J
      refine ⟨trivial, ?_⟩
      have e : bools ((List.replicate n true).map T.bl) = some (List.replicate n true) := by have := bools_map (f := id) (l := List.replicate n true); rw [List.map_id] at this; exact this
      simp only [allA, asL, asX, e]
      simp
  refine ⟨Int.le_trans (by decide) b2.1, Int.lt_of_le_of_lt b2.2 (by decide), key _ _ ?_ ht⟩
  have := b2.2
  omega
end AM
set_option maxHeartbeats 0
open PySem PySem.W PySem.Calls PyProof.Rows
theorem PySem.Challenge.cw_everysettles_k11_words_and_patterns_holds : PySem.Challenge.rw_everysettles_k11_words_and_patterns.Holds := by
  w_on; o_law
  refine HandSHeadRun.head_any (r := Hd.R) (q := view Hd.R.prog [32]) (H := Hd.hk) (ob := Hd.ob) (M := 20000) (loose := Hd.loose) (d := HandSHeadRun.topDef Hd.R.prog 32) (kwd := []) Hd.ob_eq
    (by kernel_rfl) (fun s => by kernel_rfl) Hd.run (by kernel_rfl) (by kernel_rfl) (by kernel_rfl) (by rfl) (by first | assumption | decide +kernel) (by decide +kernel) ⟨rfl, rfl, rfl, rfl, rfl, by decide +kernel⟩ ?hw ?hc
  case hw => w_witness2
  case hc =>
    refine AM.walkAT (l := PySem.Challenge.rw_everysettles_k11_words_and_patterns) (n := 63) (k := 10) (x := "_law_script") (F := AM.F_law) (cls := Tx.cls) (xs := Tx.makers) rfl (by decide) (by kernel_rfl) ⟨rfl, by decide, by decide⟩ AM.law_true ?F
    intro w mg fa h Y G hmg0
    obtain ⟨K0, KX0, c0⟩ := Y
    obtain ⟨K, KX, c, nd, tb⟩ := AM.saysYT KX0 c0
    have hmg : mg ("law" : PySem.Str) = some (.ref fa) := by
      have e : (HandSHeadRun.topDef Hd.R.prog 32).name = ("law" : PySem.Str) := by kernel_rfl
      rw [← e]
      exact hmg0
    have T := Tx.tx_of KX G c
    obtain ⟨fd, F⟩ := T.d_law
    cases hmg.symm.trans T.g_law
    have b := L2.FunD.bindsA (ps := ["_law_script"]) F fun _ _ _ _ _ _ us hl => match us, hl with | [_], _ => rfl
    exact ⟨K, fd, KX, nd, tb, fun s v => b s [v] rfl, fun base TB => AM.fa0 F Tx.sc_law (Wk.by_law ⟨T, TB⟩)⟩
