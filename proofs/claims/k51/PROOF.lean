import PyProof.Rows.All
import Wide.All
import OpenK.AllK
import Wide.FinOn
import HandS.ForMost
import HandS.Exc
import HandS.ExcOwn
import HandS.WordsExc
import HandS.IsInst
import HandS.Conv
import HandS.More
import HandS.Style
import HandS.Defaults
import HandS.EndBits
import PyProof.ReprRoads
import HandS.TupAny
import HandS.TupLe
import HandS.Wide
import HandS.Records
import HandS.CallSlots
import HandS.Comp
import HandS.Walk
import HandS.Iter
import HandS.Text
import HandS.Steps
import KE.KStateDown
import HandS.Head0
import HandS.Head1
import HandS.Head2
import HandS.HeadHook1
import HandS.HeadHook2
import PySem.Challenge.RW_rowmarks_k51_what_is_an_operation
set_option Elab.async false
set_option linter.all false
set_option maxRecDepth 100000
set_option maxHeartbeats 0
/-! Rm, part A: promises of defs that call repr (no repr is under way around them). -/
namespace Rm
open PySem PySem.Spec L2
open PyProof.Rows hiding St

/-- a def's promise where no repr is under way -/
structure FnG (P : Program) (w : World) (K : PySem.W.Frag) (mg : Str → Option Value) (base : Heap) (cx : CXT) (k : Nat) (f : Addr) (fd : FuncData) (ps : List Str) (sp : Sp) : Prop where
  len : ∀ vs H Q E, sp vs H Q E → vs.length = ps.length
  go : ∀ (A : Around), A.guards = some [] → Room k A → ∀ (outer : List Env) (s : Shared) (H : Hp) (args : Args) (us : List Value) (vs : List V) (Q : VK) (E : XK),
    Env0 P w K mg base A outer s H → BindsTo s fd args (ps.zip us) → Vals vs us → sp vs H Q E → codeAny (model P w) A (.call (.ref f) args) (CR cx outer P w H s Q E) s

theorem FnG.of {P : Program} {w : World} {K : PySem.W.Frag} {mg : Str → Option Value} {base : Heap} {cx : CXT} {k : Nat} {f : Addr} {fd : FuncData} {ps : List Str} {sp : Sp}
    (F : FnOk P w K mg base cx k f fd ps sp) : FnG P w K mg base cx k f fd ps sp := ⟨F.len, fun A _ hr outer s H args us vs Q E e0 hb hv hs => F.run A outer s H args us vs Q E hr e0 hb hv hs⟩

theorem guards_deeper (A : Around) (env : Env) : (A.deeper env).guards = A.guards := rfl

section
variable {P : Program} {w : World} {K : PySem.W.Frag} {mg : Str → Option Value} {base : Heap}
/-- the rule for a def's body -/
theorem okG {cx : CXT} {x qual : Str} {params : Arguments} {body : List Stmt} {scope : Scope} {dvs : List V} {kws : List (Str × V)} {f : Addr} {fd : FuncData} {N ps : List Str} {k : Nat} {sp : Sp}
    (F : FunD K x qual params body scope dvs kws f fd) (S : FnScope N ps scope) (len : ∀ vs H Q E, sp vs H Q E → vs.length = ps.length)
    (hb : ∀ (cdv : Value) (A : Around) (outer : List Env) (s : Shared) (H : Hp) (vs : List V) (Q : VK) (E : XK), A.guards = some [] → Room k (A.deeper (envOfC qual scope s.heap.objs.size f cdv)) → sp vs H Q E →
      ∃ t, PSs (cxOf cx P w K mg base N qual scope f cdv A outer s H E) body t ∧ t { nx := fun _ H' => Q .non H', rt := Q } (start N vs) H) : FnG P w K mg base cx (k + 1) f fd ps sp := by
  obtain ⟨oc, od, dV, kV, doc, pm, an, cdv, ct, osl, rfl, lk, hcd, _, _⟩ := F.ex
  refine ⟨len, fun A hG hr outer s H args us vs Q E e0 hbd r hsp => ?_⟩
  have ll : vs.length = ps.length := len _ _ _ _ hsp
  have kx : K.In s.heap := e0.mod.kin.keeps fun b o e => (e0.bs b o e).1
  have hlim : s.heap.NoLimit := e0.mod.nolimit.keeps fun b o e => (e0.bs b o e).1
  refine codeAny_call_function hr.depth (kx _ _ lk) rfl S.co S.gen rfl (PySem.W.codeRec_of kx hcd) (hbd _ _ _ _ ?_)
  refine wpAny_newFunctionEnv_cells S.kind (fun y hy => ?_) fun env he s1 x => ?_
  · obtain ⟨n, v⟩ := y
    rcases S.par n (List.of_mem_zip hy).1 with q | q
    · exact Or.inl q
    · exact Or.inr ⟨q, PySem.W.cellsFrom_some _ _ _ (Or.inl q)⟩
  subst he
  refine ⟨hlim.keeps x.toInCall.keep, codeAny_func ?_⟩
  obtain ⟨t, ht, hq⟩ := hb cdv A outer s H vs Q E hG (hr.deeper _) hsp
  refine wpAny_mono (ht.run [] s1 (start N vs) H _ (inv_start S hr.hd e0 ll r x) hq) (fun fl s' hs => ?_) fun e s' hs => hs
  cases fl with
  | ret u =>
    obtain ⟨v, σ', H', J, rv, q⟩ := hs
    exact ⟨v, H', J.os, J.bare, J.base, J.hok, rv, q⟩
  | next =>
    obtain ⟨σ', H', J, q⟩ := hs
    exact ⟨V.non, H', J.os, J.bare, J.base, J.hok, rfl, q⟩
  | brk =>
    obtain ⟨_, _, _, q⟩ := hs
    cases q
  | cont =>
    obtain ⟨_, _, _, q⟩ := hs
    cases q
end

section
variable {X : Cx} {cx : CXT} {k : Nat} {f : Addr} {fd : FuncData} {ps : List Str} {sp : Sp} {E : St → XK} {x : Str} {p pos : Pos} {e : Expr} {es : List Expr} {t : TA}
theorem run_g {pins : List (Addr × Obj)} {σ : St} {H : Hp} {s : Shared} {Q : VK} {us : List Value} {vs : List V} (F : FnG X.prog X.w X.K X.mg X.base cx k f fd ps sp) (hG : X.A.guards = some []) (hr : Room k X.A)
    (hb : Binds X.K fd ps []) (hx : PassesAt cx X σ (E σ)) (I : Inv X pins σ H s) (r : Vals vs us) (h : sp vs H Q (E σ)) : wpAny (model X.prog X.w) X.A (call (.ref f) us) (EP X pins σ Q) X.xe s := by
  have ll : us.length = ps.length := r.length.symm.trans (F.len _ _ _ _ h)
  have b := hb s us I.kIn (by rw [List.append_nil]; exact ll)
  rw [List.append_nil] at b
  refine wpAny_call (codeAny_mono (F.go X.A hG hr X.stack s H ⟨us, []⟩ us vs Q (E σ) I.env0 b r h) fun r s' hq => ?_)
  rcases r with e | fl
  · exact hx pins H s e s' I hq
  · cases fl with
    | ret u => exact I.after hq
    | next => cases hq
    | brk => cases hq
    | cont => cases hq
/-- f(e, ..) -/
theorem pe_callG (F : FnG X.prog X.w X.K X.mg X.base cx k f fd ps sp) (hG : X.A.guards = some []) (hr : Room k X.A) (hg : Gl X x) (hm : X.mg x = some (.ref f)) (hk : PySem.W.keepIn X.K (.ref f) = true)
    (hb : Binds X.K fd ps []) (hx : ∀ σ, PassesAt cx X σ (E σ)) (ha : PA X (e :: es) t) (hdb : (x == ("__debug__" : Str)) = false := by decide)
    (he : starEach (e :: es) X.env = (false, eval e X.env) :: starEach es X.env := by rfl) (hpl : (backTo pos (starEach es X.env)).any (·.1) = false := by rfl) :
    PE X (.Call (.Name x p) (e :: es) [] pos) (tCallS sp E t) := ⟨fun pins s σ H Q I h => by
  refine wpAny_Call_Name_kw (ld_glob I hg hm ?_ hdb)
  refine PySem.W.callWith_K (h₀ := X.base) I.ok.mod.kin hk (thn (ha.run pos pins s σ H _ I h) fun us s1 hh => ?_) he hpl
  obtain ⟨vs, H1, I1, r, q⟩ := hh
  exact ⟨I1.kIn, run_g F hG hr hb (hx σ) I1 r q⟩⟩
end
end Rm
/-! Rm, part B: data as a whole (dicts too), repr of data. -/
namespace Rm
open PySem PySem.Spec L2
open PyProof.Rows hiding St

def keyD : Key → PyData
  | .inl i => .int i
  | .inr x => .str x
/-- what is read at a (a locked thing as what it is) -/
def rdo (H : Hp) (a : Addr) : Option HO := match H a with
  | some (.frz _ u) => some u
  | r => r
theorem rdo_of {H : Hp} {a : Addr} {u : HO} (h : H a = some u) (hn : ∀ o v, u ≠ .frz o v) : rdo H a = some u := by
  unfold rdo
  rw [h]
  cases u <;> first | rfl | exact absurd rfl (hn _ _)
theorem rdo_rd {H : Hp} {a : Addr} {u : HO} (h : rdo H a = some u) : Rd H a u := by
  unfold rdo at h
  split at h
  · rename_i o v e
    cases h
    exact Or.inr ⟨o, e⟩
  · exact Or.inl h
theorem rdo_some {H : Hp} {a : Addr} {u : HO} (h : rdo H a = some u) : ∃ o, H a = some o := by
  rcases rdo_rd h with e | ⟨o, e⟩
  · exact ⟨_, e⟩
  · exact ⟨_, e⟩
theorem rdo_l {K : PySem.W.Frag} {H : Hp} {a : Addr} {xs : List V} (h : rdo H a = some (.lst xs)) : SqL K H a xs := Or.inl (rdo_rd h)
theorem rdo_t {K : PySem.W.Frag} {H : Hp} {a : Addr} {xs : List V} (h : rdo H a = some (.tup xs)) : SqT K H a xs := Or.inl (rdo_rd h)
mutual
/-- v stands for the data d in H -/
inductive Dr (H : Hp) : V → PyData → Prop
  | non : Dr H .non .none
  | bl (b : Bool) : Dr H (.bl b) (.bool b)
  | int (i : Int) : Dr H (.int i) (.int i)
  | str (x : Str) : Dr H (.str x) (.str x)
  | lst {a : Addr} {xs : List V} {ds : List PyData} : rdo H a = some (.lst xs) → DrA H xs ds → Dr H (.ref a) (.list ds)
  | tup {a : Addr} {xs : List V} {ds : List PyData} : rdo H a = some (.tup xs) → DrA H xs ds → Dr H (.ref a) (.tuple ds)
  | dct {a : Addr} {kvs : List (Key × V)} {ds : List (PyData × PyData)} : rdo H a = some (.dK kvs) → DrK H kvs ds → Dr H (.ref a) (.dict ds)
inductive DrA (H : Hp) : List V → List PyData → Prop
  | nil : DrA H [] []
  | cons {v : V} {vs : List V} {d : PyData} {ds : List PyData} : Dr H v d → DrA H vs ds → DrA H (v :: vs) (d :: ds)
inductive DrK (H : Hp) : List (Key × V) → List (PyData × PyData) → Prop
  | nil : DrK H [] []
  | cons {k : Key} {v : V} {kvs : List (Key × V)} {d : PyData} {ds : List (PyData × PyData)} : Dr H v d → DrK H kvs ds → DrK H ((k, v) :: kvs) ((keyD k, d) :: ds)
end

/-- what is read stays -/
def Ext (H H' : Hp) : Prop := ∀ a o, H a = some o → H' a = some o
theorem Ext.refl (H : Hp) : Ext H H := fun _ _ h => h
theorem Ext.trans {H H1 H2 : Hp} (a : Ext H H1) (b : Ext H1 H2) : Ext H H2 := fun x o h => b x o (a x o h)
theorem Ext.new {H : Hp} {p : Addr} {o : HO} (h : H p = none) : Ext H (upd H p o) := fun a u e => (upd_ne (ne_of_none e h)).trans e
theorem Ext.o {H H' : Hp} {a : Addr} {u : HO} (e : Ext H H') (h : rdo H a = some u) : rdo H' a = some u := by
  obtain ⟨o, q⟩ := rdo_some h
  unfold rdo at h ⊢
  rw [e a o q]
  rw [q] at h
  exact h
theorem Ext.rd {H H' : Hp} {a : Addr} {u : HO} (e : Ext H H') (h : Rd H a u) : Rd H' a u := h.imp (e _ _) fun ⟨o, z⟩ => ⟨o, e _ _ z⟩
theorem Ext.l {K : PySem.W.Frag} {H H' : Hp} {a : Addr} {xs : List V} (e : Ext H H') (h : SqL K H a xs) : SqL K H' a xs := h.imp e.rd id
theorem Ext.t {K : PySem.W.Frag} {H H' : Hp} {a : Addr} {xs : List V} (e : Ext H H') (h : SqT K H a xs) : SqT K H' a xs := h.imp e.rd id

section
variable {H H' : Hp}
mutual
theorem Dr.ext (e : Ext H H') : ∀ {v : V} {d : PyData}, Dr H v d → Dr H' v d
  | _, _, .non => .non
  | _, _, .bl b => .bl b
  | _, _, .int i => .int i
  | _, _, .str x => .str x
  | _, _, .lst h a =>   .lst (e.o h) (DrA.ext e a)
  | _, _, .tup h a => .tup (e.o h) (DrA.ext e a)
  | _, _, .dct h a => .dct (e.o h) (DrK.ext e a)
theorem DrA.ext (e : Ext H H') : ∀ {vs : List V} {ds : List PyData}, DrA H vs ds → DrA H' vs ds
  | _, _, .nil => .nil
  | _, _, .cons h a => .cons (Dr.ext e h) (DrA.ext e a)
theorem DrK.ext (e : Ext H H') : ∀ {kvs : List (Key × V)} {ds : List (PyData × PyData)}, DrK H kvs ds → DrK H' kvs ds
  | _, _, .nil => .nil
  | _, _, .cons h a => .cons (Dr.ext e h) (DrK.ext e a)
end
theorem DrA.length {vs : List V} {ds : List PyData} (h : DrA H vs ds) : vs.length = ds.length := by
  induction vs generalizing ds with
  | nil => cases h; rfl
  | cons v vs ih =>
    cases h with
    | cons _ a => simp [ih a]
theorem DrA.get {vs : List V} {ds : List PyData} (h : DrA H vs ds) {i : Nat} {d : PyData} (e : ds[i]? = some d) : ∃ v, vs[i]? = some v ∧ Dr H v d := by
  induction vs generalizing ds i with
  | nil => cases h; simp at e
  | cons v vs ih =>
    cases h with
    | cons h a =>
      cases i with
      | zero => simp at e; subst e; exact ⟨v, rfl, h⟩
      | succ i => simp at e; simpa using ih a e
end

section
variable {X : Cx} {pins : List (Addr × Obj)} {σ : St} {H : Hp} {s : Shared}
theorem keyD_reads {k : Key} {u : Value} (h : keyIs k u = true) : Reads s.heap u (keyD k) [] := by
  rcases keyIs_shape h with ⟨i, t, rfl, rfl⟩ | ⟨x, t, rfl, rfl⟩
  · exact Reads.int i t
  · exact Reads.str x t
theorem keyD_repr {k : Key} {u : Value} {h0 : Heap} (h : keyIs k u = true) (hs : (keyD k).showable = true) (hz : (keyD k).shown.length ≤ sizeLine) (n : Nat) : ReprK X.prog X.w [] h0 n u (keyD k).shown := by
  rcases keyIs_shape h with ⟨i, t, rfl, rfl⟩ | ⟨x, t, rfl, rfl⟩
  · simp only [keyD, PyData.shown] at hz ⊢
    exact ReprK.of_is (ReprIs.int t (by simpa [keyD, PyData.showable] using hs)) _ _ _
  · simp only [keyD, PyData.shown] at hz ⊢
    exact ReprK.of_is (ReprIs.str x t hz) _ _ _
/-- what repr wants of a value: it is read, and its text is known -/
def Shows (P : Program) (w : World) (h : Heap) (u : Value) (d : PyData) : Prop :=
  (∃ as, Reads h u d as) ∧ ∃ bs, ReadAtMost h d.depth bs ∧ ReprK P w bs h d.depth u d.shown
def ShowsA (P : Program) (w : World) (h : Heap) (us : List Value) (ds : List PyData) : Prop :=
  (∃ as, ReadsAll h us ds as) ∧ ∃ bs, ReadAtMost h (PyData.depthAll ds) bs ∧ ReprAllK P w bs h (PyData.depthAll ds) us (PyData.shownAll ds)
theorem ShowsA.cons {P : Program} {w : World} {h : Heap} {u : Value} {us : List Value} {d : PyData} {ds : List PyData} (a : Shows P w h u d) (b : ShowsA P w h us ds) : ShowsA P w h (u :: us) (d :: ds) := by
  obtain ⟨⟨a1, ra⟩, b1, c1, k1⟩ := a
  obtain ⟨⟨a2, rb⟩, b2, c2, k2⟩ := b
  refine ⟨⟨_, ReadsAll.cons ra rb⟩, b1 ++ b2, ?_, ?_⟩
  · simp only [PyData.depthAll]
    exact (c1.mono (Nat.le_max_left _ _)).append (c2.mono (Nat.le_max_right _ _))
  · simp only [PyData.depthAll, PyData.shownAll]
    exact ReprAllK.cons ((k1.more fun b hb => List.mem_append_left _ hb).level_le (Nat.le_max_left _ _)) (k2.more_le (fun b hb => List.mem_append_right _ hb) (Nat.le_max_right _ _))
theorem shows_nil {P : Program} {w : World} {h : Heap} : ShowsA P w h [] [] := ⟨⟨_, .nil⟩, [], (fun _ z => nomatch z), by simp only [PyData.shownAll]; exact .nil⟩
theorem shows_leaf {P : Program} {w : World} {h : Heap} {u : Value} {d : PyData} (r : Reads h u d []) (k : ReprIs P w u d.shown) : Shows P w h u d := ⟨⟨_, r⟩, [], (fun _ z => nomatch z), ReprK.of_is k _ _ _⟩

/-- a list, a tuple, a dict by its parts -/
theorem shows_list {P : Program} {w : World} {h : Heap} {a : Addr} {o : Obj} {us : List Value} {n : Nat} {ds : List PyData} (h1 : h.get? a = some o) (h2 : o.cls = .type "list") (h3 : o.data = .seq us.toArray n) (A : ShowsA P w h us ds) : Shows P w h (.ref a) (.list ds) := by
  obtain ⟨⟨as, r⟩, bs, c, k⟩ := A
  have R : Reads h (.ref a) (.list ds) (a :: as) := Reads.list h1 h2 h3 r
  have na : a ∉ bs := not_mem_of_deeper R (by simp only [PyData.depth]; omega) c
  refine ⟨⟨_, R⟩, a :: bs, ReadAtMost.cons R (by simp only [PyData.depth]; omega) c, ?_⟩
  simp only [PyData.depth, PyData.shown]
  cases us with
  | nil =>
    cases r
    simp only [PyData.shownAll, listText_nil]
    exact ReprK.listEmpty h1 h2 h3
  | cons x l => exact ReprK.list h1 h2 h3 na (by simpa using k.length_eq) (fun i y e => k.item i y (by simpa using e))
theorem shows_tuple {P : Program} {w : World} {h : Heap} {a : Addr} {o : Obj} {us : List Value} {n : Nat} {ds : List PyData} (h1 : h.get? a = some o) (h2 : o.cls = .type "tuple") (h3 : o.data = .seq us.toArray n) (A : ShowsA P w h us ds) : Shows P w h (.ref a) (.tuple ds) := by
  obtain ⟨⟨as, r⟩, bs, c, k⟩ := A
  have R : Reads h (.ref a) (.tuple ds) as := Reads.tuple h1 h2 h3 r
  have na : a ∉ bs := not_mem_of_deeper R (by simp only [PyData.depth]; omega) c
  refine ⟨⟨_, R⟩, a :: bs, ReadAtMost.cons R (by simp only [PyData.depth]; omega) c, ?_⟩
  simp only [PyData.depth, PyData.shown]
  exact ReprK.tuple h1 h2 h3 na k
theorem shows_dict {P : Program} {w : World} {h : Heap} {a : Addr} {o : Obj} {es : Array DictEntry} {n : Nat} {ds : List (PyData × PyData)} (h1 : h.get? a = some o) (h2 : o.cls = .type "dict") (h3 : o.data = .dict es n) (hsys : (a == sysModules) = false)
    (A : ShowsA P w h (es.toList.map (·.key)) (ds.map (·.1))) (B : ShowsA P w h (es.toList.map (·.val)) (ds.map (·.2))) : Shows P w h (.ref a) (.dict ds) := by
  obtain ⟨⟨as, ra⟩, b1, c1, k1⟩ := A
  obtain ⟨⟨bs, rb⟩, b2, c2, k2⟩ := B
  have R := Reads.dict h1 h2 h3 ra rb
  have c : ReadAtMost h (PyData.depthKv ds) (b1 ++ b2) := (c1.mono (PyData.depthAll_keys_le ds)).append (c2.mono (PyData.depthAll_vals_le ds))
  have na : a ∉ b1 ++ b2 := not_mem_of_deeper R (by simp only [PyData.depth]; omega) c
  refine ⟨⟨_, R⟩, a :: (b1 ++ b2), ReadAtMost.cons R (by simp only [PyData.depth]; omega) c, ?_⟩
  simp only [PyData.depth, PyData.shown, PyData.shownKv_eq]
  exact ReprK.dict h1 h2 h3 hsys na (ReprEntriesK.of_two es.toList _ _
    (k1.more_le (fun b hb => List.mem_append_left _ hb) (PyData.depthAll_keys_le ds)) (k2.more_le (fun b hb => List.mem_append_right _ hb) (PyData.depthAll_vals_le ds)))

mutual
theorem Dr.shows (I : Inv X pins σ H s) : ∀ (d : PyData) (v : V) (u : Value), Dr H v d → RelV v u → d.showable = true → d.shown.length ≤ sizeLine → Shows X.prog X.w s.heap u d
  | .none, _, _, h, r, _, _ => by
    cases h; cases r
    exact shows_leaf .none (by simp only [PyData.shown]; exact ReprIs.none)
  | .bool b, _, _, h, r, _, _ => by
    cases h; cases r
    exact shows_leaf (.bool b) (by simp only [PyData.shown]; exact ReprIs.bool b)
  | .int i, _, _, h, r, hs, _ => by
    cases h
    obtain ⟨t, rfl⟩ := r
    exact shows_leaf (.int i t) (by simp only [PyData.shown]; exact ReprIs.int t (by simpa [PyData.showable] using hs))
  | .str x, _, _, h, r, _, hz => by
    cases h
    obtain ⟨t, rfl⟩ := r
    exact shows_leaf (.str x t) (by simp only [PyData.shown] at hz ⊢; exact ReprIs.str x t hz)
  | .list ds, _, _, h, r, hs, hz => by
    cases h with
    | lst hq ha =>
      cases r
      obtain ⟨its, rv, ⟨o, n, ho, hc, _, hd⟩, _⟩ := I.list (rdo_l hq)
      exact shows_list ho hc hd (DrA.shows I ds _ its ha rv (by simpa [PyData.showable] using hs) fun t ht => Nat.le_trans (listText_mem_le ht) (by simpa only [PyData.shown] using hz))
  | .tuple ds, _, _, h, r, hs, hz => by
    cases h with
    | tup hq ha =>
      cases r
      obtain ⟨its, rv, ⟨o, ho, hc, n, hd⟩, _⟩ := I.tuple (rdo_t hq)
      exact shows_tuple ho hc hd (DrA.shows I ds _ its ha rv (by simpa [PyData.showable] using hs) fun t ht => Nat.le_trans (tupleText_mem_le ht) (by simpa only [PyData.shown] using hz))
  | .dict ds, _, _, h, r, hs, hz => by
    cases h with
    | dct hq ha =>
      cases r
      obtain ⟨_, hsys, vs, rel, o, es, ep, ho, hx, hd, _, pr, _⟩ := dk_rd I.hok (rdo_rd hq)
      obtain ⟨s1, s2⟩ := PyData.showableKv_split ds (by simpa [PyData.showable] using hs)
      have hz' : (dictText (PyData.shownKv ds)).length ≤ sizeLine := by simpa only [PyData.shown] using hz
      obtain ⟨A, B⟩ := DrK.shows I ds _ vs es.toList ha rel pr s1 s2 (fun t ht => let ⟨p, hp, hl⟩ := PyData.shownKv_key_le ds t ht; Nat.le_trans hl (Nat.le_trans (dictText_mem_le hp) hz'))
        (fun t ht => let ⟨p, hp, hl⟩ := PyData.shownKv_val_le ds t ht; Nat.le_trans hl (Nat.le_trans (dictText_mem_le hp) hz'))
      exact shows_dict ho hx.1 hd hsys A B
theorem DrA.shows (I : Inv X pins σ H s) : ∀ (ds : List PyData) (vs : List V) (us : List Value), DrA H vs ds → Vals vs us → PyData.showableAll ds = true → (∀ t ∈ PyData.shownAll ds, t.length ≤ sizeLine) → ShowsA X.prog X.w s.heap us ds
  | [], _, _, h, r, _, _ => by
    cases h; cases r
    exact shows_nil
  | d :: ds, _, _, h, r, hs, hz => by
    have hs' : d.showable = true ∧ PyData.showableAll ds = true := by simpa [PyData.showableAll] using hs
    cases h with
    | cons h1 h2 =>
      cases r with
      | cons r1 r2 =>
        exact ShowsA.cons (Dr.shows I d _ _ h1 r1 hs'.1 (hz _ (by simp only [PyData.shownAll]; exact List.mem_cons_self ..))) (DrA.shows I ds _ _ h2 r2 hs'.2 fun t ht => hz t (by simp only [PyData.shownAll]; exact List.mem_cons_of_mem _ ht))
theorem DrK.shows (I : Inv X pins σ H s) : ∀ (ds : List (PyData × PyData)) (kvs : List (Key × V)) (vs : List (Key × Value)) (es : List DictEntry), DrK H kvs ds → KV kvs vs → Pairs (mixKind X.prog X.w) es vs →
    PyData.showableAll (ds.map (·.1)) = true → PyData.showableAll (ds.map (·.2)) = true → (∀ t ∈ PyData.shownAll (ds.map (·.1)), t.length ≤ sizeLine) → (∀ t ∈ PyData.shownAll (ds.map (·.2)), t.length ≤ sizeLine) →
    ShowsA X.prog X.w s.heap (es.map (·.key)) (ds.map (·.1)) ∧ ShowsA X.prog X.w s.heap (es.map (·.val)) (ds.map (·.2))
  | [], _, _, _, h, r, p, _, _, _, _ => by
    cases h; cases r; cases p
    exact ⟨shows_nil, shows_nil⟩
  | (dk, d) :: ds, _, _, _, h, r, p, hs1, hs2, hz1, hz2 => by
    cases h with
    | @cons k _ _ _ _ h1 h2 =>
      cases r with
      | cons r1 r2 =>
        cases p with
        | cons p1 p2 p3 =>
          obtain ⟨ek, rv⟩ := r1
          have t1 : (keyD k).showable = true ∧ PyData.showableAll (ds.map (·.1)) = true := by simpa [PyData.showableAll] using hs1
          have t2 : d.showable = true ∧ PyData.showableAll (ds.map (·.2)) = true := by simpa [PyData.showableAll] using hs2
          obtain ⟨A, B⟩ := DrK.shows I ds _ _ _ h2 r2 p3 t1.2 t2.2 (fun t ht => hz1 t (by simp only [List.map_cons, PyData.shownAll]; exact List.mem_cons_of_mem _ ht)) (fun t ht => hz2 t (by simp only [List.map_cons, PyData.shownAll]; exact List.mem_cons_of_mem _ ht))
          refine ⟨ShowsA.cons ?_ A, ShowsA.cons ?_ B⟩
          · have q := p1
            rw [← ek] at q
            exact ⟨⟨_, keyD_reads q⟩, [], (fun _ z => nomatch z), keyD_repr q t1.1 (hz1 _ (by simp only [List.map_cons, PyData.shownAll]; exact List.mem_cons_self ..)) _⟩
          · dsimp only
            rw [p2]
            exact Dr.shows I d _ _ h1 rv t2.1 (hz2 _ (by simp only [List.map_cons, PyData.shownAll]; exact List.mem_cons_self ..))
end

def rRepr : List V → Hp → VK → Prop := fun xs H Q => ∃ v d, xs = [v] ∧ Dr H v d ∧ d.showable = true ∧ d.shown.length ≤ sizeLine ∧ d.depth ≤ 60 ∧ Q (.str d.shown) H
end

section
variable {X : Cx}
theorem call_repr_n {B : Around} {pins : List (Addr × Obj)} {σ : St} {H : Hp} {s : Shared} {Q : VK} {u : Value} {d : PyData} {T idr : String} {E : Value → Shared → Prop} (I : Inv X pins σ H s) (hu : B.units + 1 < cLine) (hT : s.TypeIs u T) (sl : SlotG T "__repr__" idr)
    (q : Q (.str d.shown) H) (hc : ∀ R : Value → Shared → Prop, (∀ h' t tk, (∀ b o, s.heap.get? b = some o → h'.get? b = some o) → R (.str d.shown t) { s with heap := h', toks := tk }) → wpAny (model X.prog X.w) B.in1 (call (.builtin idr) [u]) R E s) :
    wpAny (model X.prog X.w) B (call (.builtin "repr") [u]) (EP X pins σ Q) E s :=
  call_repr_slot hu hT sl (hc _ fun h' t tk hk => ⟨_, _, rfl, .str d.shown, H, I.un (Un.kept hk) (I.hok.kept hk), ⟨_, rfl⟩, q⟩)
/-- repr of data -/
theorem call_repr (hG : X.A.guards = some []) (hu : X.A.units + 100 < cLine) : CallR X (.builtin "repr") rRepr := by
  intro pins s σ H xs us Q I r h
  obtain ⟨v, d, rfl, hd, hs, hz, hdep, q⟩ := h
  obtain ⟨u, rfl, ru⟩ := vals1 r
  cases hd with
  | non =>
    cases ru
    exact P.repr_of_none (by simp only [PyData.shown] at q; exact ⟨.str _, H, I.tok _, ⟨_, rfl⟩, q⟩)
  | bl b =>
    cases ru
    exact P.repr_of_bool (by simp only [PyData.shown] at q; exact ⟨.str _, H, I.tok _, ⟨_, rfl⟩, q⟩)
  | int i =>
    obtain ⟨t, rfl⟩ := ru
    exact P.repr_of_int (by simpa [PyData.showable] using hs) (by simp only [PyData.shown] at q; exact ⟨.str _, H, I.tok _, ⟨_, rfl⟩, q⟩)
  | str x =>
    obtain ⟨t, rfl⟩ := ru
    exact P.repr_of_str (by simp only [PyData.shown] at q; exact ⟨.str _, H, I.tok _, ⟨_, rfl⟩, q⟩) (by simpa only [PyData.shown] using hz)
  | @lst a zs ds hq ha =>
    cases ru
    obtain ⟨its, rv, ⟨o, n, ho, hc, _, hd⟩, _⟩ := I.list (rdo_l hq)
    have hz' : (listText (PyData.shownAll ds)).length ≤ sizeLine := by simpa only [PyData.shown] using hz
    simp only [PyData.depth] at hdep
    obtain ⟨⟨as, rr⟩, bs, c, k⟩ := DrA.shows I ds _ its ha rv (by simpa [PyData.showable] using hs) fun t ht => Nat.le_trans (listText_mem_le ht) hz'
    have na : a ∉ bs := not_mem_of_deeper (Reads.list ho hc hd rr) (by simp only [PyData.depth]; omega) c
    refine call_repr_n I (by omega) ⟨o, ho, hc⟩ F.slot_list_repr.toG q fun R hR => ?_
    simp only [PyData.shown] at hR
    cases its with
    | nil =>
      cases rr
      simp only [PyData.shownAll, listText_nil] at hR
      exact call_list_repr_empty ⟨o, ho, hc⟩ ho hd (hR s.heap _ _ fun _ _ e => e)
    | cons y l => exact call_list_reprK ho hc hd na (by simpa using k.length_eq) (fun i y e => k.item i y (by simpa using e)) (show X.A.in1.guards = some [] from hG) (fun b _ => Clear.nil b) (by show X.A.units + 1 + _ < _; omega) (fun _ _ e => e) hR hz'
  | @tup a zs ds hq ha =>
    cases ru
    obtain ⟨its, rv, ⟨o, ho, hc, n, hd⟩, _⟩ := I.tuple (rdo_t hq)
    have hz' : (tupleText (PyData.shownAll ds)).length ≤ sizeLine := by simpa only [PyData.shown] using hz
    simp only [PyData.depth] at hdep
    obtain ⟨⟨as, rr⟩, bs, c, k⟩ := DrA.shows I ds _ its ha rv (by simpa [PyData.showable] using hs) fun t ht => Nat.le_trans (tupleText_mem_le ht) hz'
    have na : a ∉ bs := not_mem_of_deeper (Reads.tuple ho hc hd rr) (by simp only [PyData.depth]; omega) c
    refine call_repr_n I (by omega) ⟨o, ho, hc⟩ F.slot_tuple_repr q fun R hR => ?_
    simp only [PyData.shown] at hR
    exact call_tuple_reprK ho hc hd na k (show X.A.in1.guards = some [] from hG) (fun b _ => Clear.nil b) (by show X.A.units + 1 + _ < _; omega) (fun _ _ e => e) hR hz'
  | @dct a kvs ds hq ha =>
    cases ru
    obtain ⟨_, hsys, vs, rel, o, es, ep, ho, hx, hd, _, pr, _⟩ := dk_rd I.hok (rdo_rd hq)
    obtain ⟨s1, s2⟩ := PyData.showableKv_split ds (by simpa [PyData.showable] using hs)
    have hz' : (dictText (PyData.shownKv ds)).length ≤ sizeLine := by simpa only [PyData.shown] using hz
    simp only [PyData.depth] at hdep
    obtain ⟨⟨⟨as, ra⟩, b1, c1, k1⟩, ⟨bs, rb⟩, b2, c2, k2⟩ := DrK.shows I ds _ vs es.toList ha rel pr s1 s2 (fun t ht => let ⟨p, hp, hl⟩ := PyData.shownKv_key_le ds t ht; Nat.le_trans hl (Nat.le_trans (dictText_mem_le hp) hz'))
      (fun t ht => let ⟨p, hp, hl⟩ := PyData.shownKv_val_le ds t ht; Nat.le_trans hl (Nat.le_trans (dictText_mem_le hp) hz'))
    have c : ReadAtMost s.heap (PyData.depthKv ds) (b1 ++ b2) := (c1.mono (PyData.depthAll_keys_le ds)).append (c2.mono (PyData.depthAll_vals_le ds))
    have na : a ∉ b1 ++ b2 := not_mem_of_deeper (Reads.dict ho hx.1 hd ra rb) (by simp only [PyData.depth]; omega) c
    refine call_repr_n I (by omega) ⟨o, ho, hx.1⟩ F.slot_dict_repr q fun R hR => ?_
    simp only [PyData.shown, PyData.shownKv_eq] at hR
    exact call_dict_reprK ho hx.1 hd hsys na (ReprEntriesK.of_two es.toList _ _
      (k1.more_le (fun b hb => List.mem_append_left _ hb) (PyData.depthAll_keys_le ds)) (k2.more_le (fun b hb => List.mem_append_right _ hb) (PyData.depthAll_vals_le ds)))
      (show X.A.in1.guards = some [] from hG) (fun b _ => Clear.nil b) (by show X.A.units + 1 + _ < _; omega) (fun _ _ e => e) hR (by rw [← PyData.shownKv_eq]; exact hz')
end
end Rm
/-! Rm, part C: operations by cases over the values (readings that compute). -/
namespace Rm
open PySem PySem.Spec L2
open PyProof.Rows hiding St

def keyOf : V → Option Key
  | .int i => some (.inl i)
  | .str x => some (.inr x)
  | _ => none
theorem keyOf_kV {y : V} {k : Key} (h : keyOf y = some k) : y = kV k := by
  cases y <;> simp [keyOf] at h <;> subst h <;> rfl
theorem keyOf_of (k : Key) : keyOf (kV k) = some k := by cases k <;> rfl

section
variable {X : Cx}

/-! ### arithmetic -/
def rAdd : R2 := fun x y H Q => match x, y with
  | .int i, .int j => Q (.int (i + j)) H
  | .int i, .bl k => Q (.int (i + b2i k)) H
  | .str i, .str j => i.length + j.length ≤ sizeLine ∧ Q (.str (i ++ j)) H
  | .ref a, .ref b => (match H a, H b with
    | some (.lst xs), some (.lst ys) => xs.length + ys.length ≤ sizeLine ∧ ∀ p, H p = none → Q (.ref p) (upd H p (.lst (xs ++ ys)))
    | some (.tup xs), some (.tup ys) => xs.length + ys.length ≤ sizeLine ∧ (xs = [] → Q (.ref b) H) ∧ (xs ≠ [] → ys = [] → Q (.ref a) H) ∧ (xs ≠ [] → ys ≠ [] → ∀ p, H p = none → Q (.ref p) (upd H p (.tup (xs ++ ys))))
    | _, _ => False)
  | _, _ => False
theorem opAdd : OpR X (binaryOp .Add) rAdd := by
  intro pins s σ H x y v u Q I rx ry h
  unfold rAdd at h
  split at h
  · exact op_add pins s σ H _ _ v u Q I rx ry ⟨_, _, rfl, rfl, h⟩
  · exact op_add_ib pins s σ H _ _ v u Q I rx ry ⟨_, _, rfl, rfl, h⟩
  · exact op_add_str pins s σ H _ _ v u Q I rx ry ⟨_, _, rfl, rfl, h.1, h.2⟩
  · split at h
    · rename_i e1 e2
      exact op_cat pins s σ H _ _ v u Q I rx ry ⟨_, _, _, _, rfl, rfl, e1, e2, h.1, h.2⟩
    · rename_i e1 e2
      exact op_catA pins s σ H _ _ v u Q I rx ry ⟨_, _, _, _, rfl, rfl, SqT.of e1, SqT.of e2, h.1, h.2.1, h.2.2.1, h.2.2.2⟩
    · exact h.elim
  · exact h.elim
def rSub : R2 := fun x y H Q => match x, y with
  | .int i, .int j => Q (.int (i - j)) H
  | _, _ => False
theorem opSub : OpR X (binaryOp .Sub) rSub := by
  intro pins s σ H x y v u Q I rx ry h
  unfold rSub at h
  split at h
  · exact op_sub pins s σ H _ _ v u Q I rx ry ⟨_, _, rfl, rfl, h⟩
  · exact h.elim
/-- * : the factors together below a million bits are always right -/
def rMul : R2 := fun x y H Q => match x, y with
  | .int i, .int j => IntMulOk i j ∧ Q (.int (i * j)) H
  | .str z, .int k => (k = 0 ∨ k = 1) ∧ Q (.str (if k = 1 then z else Str.empty)) H
  | .ref l, .int k => (match H l with
    | some (.lst xs) => (-(2 ^ 63) ≤ k ∧ k < 2 ^ 63 ∧ xs.length * k.toNat ≤ sizeLine) ∧ ∀ p, H p = none → Q (.ref p) (upd H p (.lst (List.replicate k.toNat xs).flatten))
    | _ => False)
  | _, _ => False
theorem opMul : OpR X (binaryOp .Mult) rMul := by
  intro pins s σ H x y v u Q I rx ry h
  unfold rMul at h
  split at h
  · rename_i i j
    obtain ⟨t, rfl⟩ := rx
    obtain ⟨t', rfl⟩ := ry
    exact mul_int ⟨.int _, H, I.tok _, ⟨_, rfl⟩, h.2⟩ h.1
  · rename_i z k
    obtain ⟨t, rfl⟩ := rx
    obtain ⟨t', rfl⟩ := ry
    rcases h.1 with rfl | rfl
    · exact P.mul_str_none (by decide) (by decide) ⟨.str _, H, I.tok _, ⟨_, rfl⟩, h.2⟩
    · refine P.mul_str (by decide) (fun _ e => by cases e) (fun _ e => by cases e) ?_
      rw [if_neg (by decide), if_pos (by rfl)]
      exact ⟨.str _, H, I, ⟨_, rfl⟩, h.2⟩
  · split at h
    · rename_i e
      exact op_rep pins s σ H _ _ v u Q I rx ry ⟨_, _, _, rfl, rfl, e, h.1.1, h.1.2.1, h.1.2.2, h.2⟩
    · exact h.elim
  · exact h.elim
def rDiv : R2 := fun x y H Q => match x, y with
  | .int i, .int j => (0 < j ∧ j.natAbs < 1073741824) ∧ Q (.int (i / j)) H
  | _, _ => False
theorem opDiv : OpR X (binaryOp .FloorDiv) rDiv := by
  intro pins s σ H x y v u Q I rx ry h
  unfold rDiv at h
  split at h
  · rename_i i j
    refine op_fdivN pins s σ H _ _ v u Q I rx ry ⟨_, _, rfl, rfl, ⟨by omega, h.1.2⟩, ?_⟩
    show Q (.int (i.fdiv j)) H
    rw [Int.fdiv_eq_ediv_of_nonneg i (show 0 ≤ j by omega)]
    exact h.2
  · exact h.elim
def rMod : R2 := fun x y H Q => match x, y with
  | .int i, .int j => 0 < j ∧ Q (.int (i % j)) H
  | _, _ => False
theorem opMod : OpR X (binaryOp .Mod) rMod := by
  intro pins s σ H x y v u Q I rx ry h
  unfold rMod at h
  split at h
  · exact op_mod pins s σ H _ _ v u Q I rx ry ⟨_, _, rfl, rfl, h.1, h.2⟩
  · exact h.elim
def rPow : R2 := fun x y H Q => match x, y with
  | .int i, .int j => (0 ≤ j ∧ (Builtin.Int.intBits i : Int) * j ≤ 2 ^ 27) ∧ Q (.int (i ^ j.toNat)) H
  | _, _ => False
theorem opPow : OpR X (binaryOp .Pow) rPow := by
  intro pins s σ H x y v u Q I rx ry h
  unfold rPow at h
  split at h
  · obtain ⟨t, rfl⟩ := rx
    obtain ⟨t', rfl⟩ := ry
    exact pow_int h.1.1 h.1.2 ⟨.int _, H, I.tok _, ⟨_, rfl⟩, h.2⟩
  · exact h.elim
def rNeg : V → Hp → VK → Prop := fun x H Q => match x with
  | .int i => Q (.int (-i)) H
  | _ => False
theorem unNeg : UnR X (unaryOp .USub) rNeg := by
  intro pins s σ H x v Q I rx h
  unfold rNeg at h
  split at h
  · exact un_neg pins s σ H _ v Q I rx ⟨_, rfl, h⟩
  · exact h.elim

/-! ### comparisons -/
def rLt : R2 := fun x y H Q => match x, y with
  | .int i, .int j => Q (.bl (decide (i < j))) H
  | _, _ => False
def rLe : R2 := fun x y H Q => match x, y with
  | .int i, .int j => Q (.bl (decide (i ≤ j))) H
  | .str i, .str j => Q (.bl (!decide (j.cps.toList < i.cps.toList))) H
  | _, _ => False
def rGt : R2 := fun x y H Q => match x, y with
  | .int i, .int j => Q (.bl (decide (j < i))) H
  | _, _ => False
def rGe : R2 := fun x y H Q => match x, y with
  | .int i, .int j => Q (.bl (decide (j ≤ i))) H
  | _, _ => False
theorem opLt : OpR X (compareOp .Lt) rLt := by
  intro pins s σ H x y v u Q I rx ry h
  unfold rLt at h
  split at h
  · exact op_lt pins s σ H _ _ v u Q I rx ry ⟨_, _, rfl, rfl, h⟩
  · exact h.elim
theorem opLe : OpR X (compareOp .LtE) rLe := by
  intro pins s σ H x y v u Q I rx ry h
  unfold rLe at h
  split at h
  · exact op_le pins s σ H _ _ v u Q I rx ry ⟨_, _, rfl, rfl, h⟩
  · exact op_le_str pins s σ H _ _ v u Q I rx ry ⟨_, _, rfl, rfl, h⟩
  · exact h.elim
theorem opGt : OpR X (compareOp .Gt) rGt := by
  intro pins s σ H x y v u Q I rx ry h
  unfold rGt at h
  split at h
  · exact op_gt pins s σ H _ _ v u Q I rx ry ⟨_, _, rfl, rfl, h⟩
  · exact h.elim
theorem opGe : OpR X (compareOp .GtE) rGe := by
  intro pins s σ H x y v u Q I rx ry h
  unfold rGe at h
  split at h
  · exact op_ge pins s σ H _ _ v u Q I rx ry ⟨_, _, rfl, rfl, h⟩
  · exact h.elim

/-- a list, a tuple or a dict stands at a -/
def isCol (o : Option HO) : Bool := match o with
  | some (.lst _) | some (.tup _) | some (.dK _) => true
  | _ => false

theorem dict_eq_declines_str (l : Addr) (es : Array DictEntry) (n : Nat) (b : Str) (u : Tok) :
    Meets (Builtin.«dict.__eq__» ⟨[.ref l, .str b u], []⟩) (fun _ R s => s.heap.get? l = some { cls := .type "dict", data := .dict es n } ∧ R (.ok (.ret .notImplemented)) s) :=
  .of_wp fun prog w A R s h => by obtain ⟨hp, g, d, tk, os⟩ := s; obtain ⟨hl, h⟩ := h; have f1 := F.sub_str_dict; wp_walk using AutoSeq1.wpAny_loadPart' hl; exact ⟨_, rfl, h⟩
theorem str_eq_declines_dict (b : Str) (u : Tok) (l : Addr) (es : Array DictEntry) (n : Nat) :
    Meets (Builtin.«str.__eq__» ⟨[.str b u, .ref l], []⟩) (fun _ R s => s.heap.get? l = some { cls := .type "dict", data := .dict es n } ∧ R (.ok (.ret .notImplemented)) s) :=
  .of_wp fun prog w A R s h => by obtain ⟨hp, g, d, tk, os⟩ := s; obtain ⟨hl, h⟩ := h; wp_walk using AutoSeq1.wpAny_loadPart' hl, wpAny_load hl; exact ⟨_, rfl, h⟩
theorem rc_dict_str {A : Around} {s : Shared} {l : Addr} {es : Array DictEntry} {n : Nat} (b : Str) (u : Tok) (ho : s.heap.get? l = some { cls := .type "dict", data := .dict es n }) (hu : A.units < cLine) : SeqAt.RcAt A s (.ref l) (.str b u) false := fun prog w E Q h =>
  SeqAt.rc_eq_decline_or (k := false) ⟨_, ho, rfl⟩ (typeIs_str s b u) (by decide) F.sub_str_dict F.slot_dict_eq F.slot_str_eq_refl
    (fun _ hq => call_meets F.slot_dict_eq ⟨_, ho, rfl⟩ F.entry_dict_eq (F.args_dict_eq_2 _ _) (dict_eq_declines_str l es n b u) ⟨ho, hq⟩)
    (fun _ hq => call_meets F.slot_str_eq_refl (typeIs_str s b u) F.entry_str_eq (F.args_str_eq_2 _ _) (str_eq_declines_dict b u l es n) ⟨ho, hq⟩)
    (fun _ hq => wpAny_of_eq (rfl : isSame (.ref l) (.str b u) = pure false) hq) (.inr hu) h
theorem rc_col_str {H : Hp} {pins : List (Addr × Obj)} {σ : St} {s : Shared} {l : Addr} (b : Str) (u : Tok) (I : Inv X pins σ H s) (h : isCol (rdo H l) = true) (hu : X.A.units < cLine) : SeqAt.RcAt X.A s (.ref l) (.str b u) false := by
  unfold isCol at h
  split at h
  · rename_i e
    obtain ⟨its, r, pl, _⟩ := I.list (rdo_l e)
    exact SeqAt.RcAt.list_str b u pl.isList hu
  · rename_i e
    obtain ⟨its, r, pl, _⟩ := I.tuple (rdo_t e)
    exact SeqAt.RcAt.tuple_str b u pl hu
  · rename_i e
    obtain ⟨_, _, vs, _, o, es, ep, ho, hx, hd, _⟩ := dk_rd I.hok (rdo_rd e)
    obtain ⟨oc, od, dt, sl⟩ := o
    obtain ⟨h1, h2, h3⟩ := hx
    simp only at h1 h2 h3 hd
    subst h1 h2 h3 hd
    exact rc_dict_str b u ho hu
  · cases h

mutual
theorem Dr.dp {K : PySem.W.Frag} {H : Hp} : ∀ (d : PyData) (v : V), Dr H v d → d.canLay0 = true → Dp K H v d
  | .none, _, h, _ => by cases h; exact .non
  | .bool b, _, h, _ => by cases h; exact .bl b
  | .int i, _, h, _ => by cases h; exact .int i
  | .str x, _, h, _ => by cases h; exact .str x
  | .list ds, _, h, hc => by
    cases h with
    | lst e a => exact .lst (rdo_l e) (DrA.dp ds _ a (by simpa [PyData.canLay0] using hc))
  | .tuple ds, _, h, hc => by
    cases h with
    | tup e a => exact .tup (rdo_t e) (DrA.dp ds _ a (by simpa [PyData.canLay0] using hc))
  | .dict _, _, _, hc => by simp [PyData.canLay0] at hc
theorem DrA.dp {K : PySem.W.Frag} {H : Hp} : ∀ (ds : List PyData) (vs : List V), DrA H vs ds → PyData.canLayAll0 ds = true → DpAll K H vs ds
  | [], _, h, _ => by cases h; exact .nil
  | d :: ds, _, h, hc => by
    cases h with
    | cons a b =>
      have hc' : d.canLay0 = true ∧ PyData.canLayAll0 ds = true := by simpa [PyData.canLayAll0] using hc
      exact .cons (Dr.dp d _ a hc'.1) (DrA.dp ds _ b hc'.2)
end

def isSeq (o : Option HO) : Bool := match o with
  | some (.lst _) | some (.tup _) => true
  | _ => false
/-- == of values of unlike kinds, or with an empty list or tuple -/
def eqR (H : Hp) (x y : V) : Option Bool := match x, y with
  | .ref a, .ref b => (match rdo H a, rdo H b with
    | some (.tup xs), some (.tup []) => some xs.isEmpty
    | some (.lst xs), some (.lst []) => some xs.isEmpty
    | some (.lst _), some (.tup _) => some false
    | some (.tup _), some (.lst _) => some false
    | _, _ => none)
  | .ref a, .str _ => if isCol (rdo H a) = true then some false else none
  | .ref a, .int _ => if isSeq (rdo H a) = true then some false else none
  | .ref a, .bl _ => if isSeq (rdo H a) = true then some false else none
  | .ref a, .non => if isSeq (rdo H a) = true then some false else none
  | .str _, .ref a => if isSeq (rdo H a) = true then some false else none
  | .int _, .ref a => if isSeq (rdo H a) = true then some false else none
  | .bl _, .ref a => if isSeq (rdo H a) = true then some false else none
  | .non, .ref a => if isSeq (rdo H a) = true then some false else none
  | _, _ => none
theorem isSeq_at {H : Hp} {pins : List (Addr × Obj)} {σ : St} {s : Shared} {a : Addr} (I : Inv X pins σ H s) (h : isSeq (rdo H a) = true) : (∃ its : List Value, s.heap.IsList a its.toArray) ∨ ∃ its : List Value, s.heap.IsTuple a its.toArray := by
  unfold isSeq at h
  split at h
  · rename_i e
    obtain ⟨its, r, pl, _⟩ := I.list (rdo_l e)
    exact Or.inl ⟨its, pl.isList⟩
  · rename_i e
    obtain ⟨its, r, pl, _⟩ := I.tuple (rdo_t e)
    exact Or.inr ⟨its, pl⟩
  · cases h
theorem eqR_ok {H : Hp} {pins : List (Addr × Obj)} {σ : St} {s : Shared} {x y : V} {v u : Value} {k : Bool} (hu : X.A.units < cLine) (I : Inv X pins σ H s) (rx : RelV x v) (ry : RelV y u) (h : eqR H x y = some k) : SeqAt.RcAt X.A s v u k := by
  unfold eqR at h
  split at h
  · rename_i a b
    obtain rfl := (show v = Value.ref a from rx)
    obtain rfl := (show u = Value.ref b from ry)
    split at h
    · rename_i xs e1 e2
      injection h with h
      subst h
      obtain ⟨its, r, pl, _⟩ := I.tuple (rdo_t e1)
      obtain ⟨its2, r2, pl2, _⟩ := I.tuple (rdo_t e2)
      cases r2
      have q := SeqAt.RcAt.tuples (A := X.A) (e := fun _ => true) pl pl2 hu (fun j h1 h2 => by simp at h2)
      have : ((List.range (min its.toArray.size ([] : List Value).toArray.size)).all (fun _ => true) && its.toArray.size == ([] : List Value).toArray.size) = xs.isEmpty := by
        have l := r.length
        cases xs <;> cases its <;> simp_all
      rw [this] at q
      exact q
    · rename_i xs e1 e2
      injection h with h
      subst h
      obtain ⟨its, r, pl, _⟩ := I.list (rdo_l e1)
      obtain ⟨its2, r2, pl2, _⟩ := I.list (rdo_l e2)
      cases r2
      cases r with
      | nil =>
        have q := SeqAt.RcAt.lists (A := X.A) (e := fun _ => true) pl.isList pl2.isList rfl hu (fun j h1 h2 => by simp at h2)
        exact q
      | cons _ _ => exact SeqAt.RcAt.lists_lengths pl.isList pl2.isList (by simp) hu
    · rename_i e1 e2
      injection h with h
      subst h
      obtain ⟨its, r, pl, _⟩ := I.list (rdo_l e1)
      obtain ⟨its2, r2, pl2, _⟩ := I.tuple (rdo_t e2)
      exact SeqAt.RcAt.list_tuple pl.isList pl2 hu
    · rename_i e1 e2
      injection h with h
      subst h
      obtain ⟨its, r, pl, _⟩ := I.tuple (rdo_t e1)
      obtain ⟨its2, r2, pl2, _⟩ := I.list (rdo_l e2)
      exact SeqAt.RcAt.tuple_list pl pl2.isList hu
    · cases h
  all_goals first
    | (cases h; done)
    | (split at h
       · rename_i e
         injection h with h
         subst h
         first
           | (obtain rfl := (show v = Value.ref _ from rx)
              obtain ⟨t, rfl⟩ := ry
              exact rc_col_str _ _ I e hu)
           | (obtain rfl := (show v = Value.ref _ from rx)
              rcases isSeq_at I e with ⟨its, pl⟩ | ⟨its, pl⟩ <;> first
                | (obtain ⟨t, rfl⟩ := ry; first | exact SeqAt.RcAt.list_int _ _ pl hu | exact SeqAt.RcAt.tuple_int _ _ pl hu)
                | (obtain rfl := (show u = Value.bool _ from ry); first | exact SeqAt.RcAt.list_bool _ pl hu | exact SeqAt.RcAt.tuple_bool _ pl hu)
                | (obtain rfl := (show u = Value.none from ry); first | exact SeqAt.RcAt.list_none pl hu | exact SeqAt.RcAt.tuple_none pl hu))
           | (obtain rfl := (show u = Value.ref _ from ry)
              rcases isSeq_at I e with ⟨its, pl⟩ | ⟨its, pl⟩ <;> first
                | (obtain ⟨t, rfl⟩ := rx; first | exact SeqAt.RcAt.int_list _ _ pl hu | exact SeqAt.RcAt.int_tuple _ _ pl hu | exact SeqAt.RcAt.str_list _ _ pl hu | exact SeqAt.RcAt.str_tuple _ _ pl hu)
                | (obtain rfl := (show v = Value.bool _ from rx); first | exact SeqAt.RcAt.bool_list _ pl hu | exact SeqAt.RcAt.bool_tuple _ pl hu)
                | (obtain rfl := (show v = Value.none from rx); first | exact SeqAt.RcAt.none_list pl hu | exact SeqAt.RcAt.none_tuple pl hu))
       · cases h)
/-- == : plain values; unlike kinds; data without dicts -/
def rEqU : R2 := fun x y H Q =>
  if scal x y = true then Q (.bl (decide (x = y))) H else
  match eqR H x y with
  | some k => Q (.bl k) H
  | none => ∃ d e, Dr H x d ∧ Dr H y e ∧ SeqAt.shaped d = true ∧ SeqAt.shaped e = true ∧ Q (.bl (PyData.eqv d e)) H
theorem opEq (hu : X.A.units + 64 < cLine) : OpR X (compareOp .Eq) rEqU := by
  intro pins s σ H x y v u Q I rx ry h
  unfold rEqU at h
  split at h
  · rename_i e
    exact op_eq pins s σ H _ _ v u Q I rx ry ⟨e, h⟩
  · split at h
    · rename_i k e
      exact eqR_ok (by omega) I rx ry e X.prog X.w X.xe _ ⟨.bl k, H, I, rfl, h⟩
    · obtain ⟨d, e, hd, he, sd, se, q⟩ := h
      exact op_eqD hu pins s σ H _ _ v u Q I rx ry ⟨d, e, Dr.dp _ _ hd (SeqAt.canLay_of_shaped sd), Dr.dp _ _ he (SeqAt.canLay_of_shaped se), sd, se, q⟩
/-- != -/
def rNeU : R2 := fun x y H Q => if scal x y = true then Q (.bl (!decide (x = y))) H else ∃ d e, Dr H x d ∧ Dr H y e ∧ SeqAt.shaped d = true ∧ SeqAt.shaped e = true ∧ Q (.bl (!PyData.eqv d e)) H
theorem opNe (hu : X.A.units + 64 < cLine) : OpR X (compareOp .NotEq) rNeU := by
  intro pins s σ H x y v u Q I rx ry h
  unfold rNeU at h
  split at h
  · rename_i e
    exact op_ne pins s σ H _ _ v u Q I rx ry ⟨e, h⟩
  · obtain ⟨d, e, hd, he, sd, se, q⟩ := h
    exact op_neD hu pins s σ H _ _ v u Q I rx ry ⟨d, e, Dr.dp _ _ hd (SeqAt.canLay_of_shaped sd), Dr.dp _ _ he (SeqAt.canLay_of_shaped se), sd, se, q⟩
/-- is, is not: of None, of bools -/
def rIs : R2 := fun x y H Q => match x, y with
  | .bl a, .bl b => Q (.bl (decide (a = b))) H
  | x, .non => Q (.bl (decide (x = .non))) H
  | _, _ => False
def rIsNot : R2 := fun x y H Q => match x, y with
  | .bl a, .bl b => Q (.bl (!decide (a = b))) H
  | x, .non => Q (.bl (!decide (x = .non))) H
  | _, _ => False
theorem opIs : OpR X (compareOp .Is) rIs := by
  intro pins s σ H x y v u Q I rx ry h
  unfold rIs at h
  split at h
  · exact op_is_bl pins s σ H _ _ v u Q I rx ry ⟨_, _, rfl, rfl, h⟩
  · exact op_isN pins s σ H _ _ v u Q I rx ry ⟨rfl, h⟩
  · exact h.elim
theorem opIsNot : OpR X (compareOp .IsNot) rIsNot := by
  intro pins s σ H x y v u Q I rx ry h
  unfold rIsNot at h
  split at h
  · exact op_isnot_bl pins s σ H _ _ v u Q I rx ry ⟨_, _, rfl, rfl, h⟩
  · exact op_notN pins s σ H _ _ v u Q I rx ry ⟨rfl, h⟩
  · exact h.elim

/-! ### in -/
def rMem (neg : Bool) : R2 := fun x y H Q => match y with
  | .ref a => (match rdo H a with
    | some (.lst ys) => (flatV x = true ∧ ys.all flatV = true) ∧ Q (.bl (if neg then !inV x ys else inV x ys)) H
    | some (.tup ys) => (flatV x = true ∧ ys.all flatV = true) ∧ Q (.bl (if neg then !inV x ys else inV x ys)) H
    | some (.dK kvs) => (match keyOf x with
      | some k => Q (.bl (if neg then !(valV kvs k).isSome else (valV kvs k).isSome)) H
      | none => False)
    | _ => False)
  | _ => False
theorem opIn (hu : X.A.units + 1 < cLine) : OpR X (compareOp .In) (rMem false) := by
  intro pins s σ H x y v u Q I rx ry h
  unfold rMem at h
  split at h
  · split at h
    · rename_i e
      exact op_in_seq pins s σ H _ _ v u Q I rx ry ⟨_, _, rfl, Or.inl (rdo_l e), h.1.1, h.1.2, h.2⟩
    · rename_i e
      exact op_in_seq pins s σ H _ _ v u Q I rx ry ⟨_, _, rfl, Or.inr (rdo_t e), h.1.1, h.1.2, h.2⟩
    · rename_i e
      split at h
      · rename_i k ek
        obtain rfl := (show u = Value.ref _ from ry)
        exact d_in hu I (Or.inl ⟨_, k, rdo_rd e, keyOf_kV ek, rfl⟩) rx fun s' I' => ⟨.bl _, H, I', rfl, h⟩
      · exact h.elim
    · exact h.elim
  · exact h.elim
theorem opNotIn (hu : X.A.units + 1 < cLine) : OpR X (compareOp .NotIn) (rMem true) := by
  intro pins s σ H x y v u Q I rx ry h
  unfold rMem at h
  split at h
  · split at h
    · rename_i e
      exact op_notIn_seq pins s σ H _ _ v u Q I rx ry ⟨_, _, rfl, Or.inl (rdo_l e), h.1.1, h.1.2, h.2⟩
    · rename_i e
      exact op_notIn_seq pins s σ H _ _ v u Q I rx ry ⟨_, _, rfl, Or.inr (rdo_t e), h.1.1, h.1.2, h.2⟩
    · rename_i e
      split at h
      · rename_i k ek
        obtain rfl := (show u = Value.ref _ from ry)
        exact d_notIn hu I (Or.inl ⟨_, k, rdo_rd e, keyOf_kV ek, rfl⟩) rx fun s' I' => ⟨.bl _, H, I', rfl, h⟩
      · exact h.elim
    · exact h.elim
  · exact h.elim

/-! ### subscripts -/
def rItem : R2 := fun x y H Q => match x with
  | .ref a => (match rdo H a with
    | some (.lst xs) => (match y with
      | .int i => (match atI xs i with
        | some v => Q v H
        | none => False)
      | _ => False)
    | some (.tup xs) => (match y with
      | .int i => (match atI xs i with
        | some v => Q v H
        | none => False)
      | _ => False)
    | some (.dK kvs) => (match keyOf y with
      | some k => (match valV kvs k with
        | some v => Q v H
        | none => False)
      | none => False)
    | _ => False)
  | .str z => (match y with
    | .int i => z.length ≤ sizeLine ∧ (match atI z.cps.toList i with
      | some c => Q (.str ⟨#[c]⟩) H
      | none => False)
    | _ => False)
  | _ => False
theorem ixItem (hu : X.A.units + 1 < cLine) : IxR X rItem := by
  intro value slice pins s σ H x y v u Q I rx ry h hs
  unfold rItem at h
  split at h
  · split at h
    · rename_i e
      split at h
      · split at h
        · rename_i z ez
          exact ix_list value slice pins s σ H _ _ v u Q I rx ry ⟨_, _, _, z, rfl, rfl, rdo_l e, ez, h⟩ hs
        · exact h.elim
      · exact h.elim
    · rename_i e
      split at h
      · split at h
        · rename_i z ez
          exact ix_tup value slice pins s σ H _ _ v u Q I rx ry ⟨_, _, _, z, rfl, rfl, rdo_t e, ez, h⟩ hs
        · exact h.elim
      · exact h.elim
    · rename_i e
      split at h
      · rename_i k ek
        split at h
        · rename_i z ez
          obtain rfl := (show v = Value.ref _ from rx)
          have g : DGet H _ y (some z) := Or.inl ⟨_, k, rdo_rd e, keyOf_kV ek, ez.symm⟩
          exact PyProof.Rows.tail_any (dict_typeIs I g) PySem.F.slot_dict_getitem.lookup (d_getItem hu I g ry fun w' s' I' rw' => ⟨z, H, I', rw', h⟩) hs
        · exact h.elim
      · exact h.elim
    · exact h.elim
  · split at h
    · obtain ⟨hz, h⟩ := h
      split at h
      · rename_i c ec
        exact ix_str value slice pins s σ H _ _ v u Q I rx ry ⟨_, _, c, rfl, rfl, hz, ec, h⟩ hs
      · exact h.elim
    · exact h.elim
  · exact h.elim
/-- o[i] = v -/
def rStore : TSet := fun o i v H Q => match o with
  | .ref a => (match H a with
    | some (.lst xs) => (match i with
      | .int k => (match ixN xs.length k with
        | some j => Q (upd H a (.lst (xs.set j v)))
        | none => False)
      | _ => False)
    | some (.dK kvs) => (match keyOf i with
      | some k => kvs.length < sizeLine ∧ Q (upd H a (.dK (putK kvs k v)))
      | none => False)
    | _ => False)
  | _ => False
theorem setStore (hu : X.A.units + 1 < cLine) : PSet X rStore := by
  intro pins s σ H o i v ov iv u Q I ro ri rv h
  unfold rStore at h
  split at h
  · split at h
    · rename_i e
      split at h
      · split at h
        · rename_i j ej
          exact set_list pins s σ H _ _ v ov iv u Q I ro ri rv ⟨_, _, _, j, rfl, rfl, e, ej, h⟩
        · exact h.elim
      · exact h.elim
    · rename_i e
      split at h
      · rename_i k ek
        obtain rfl := (show ov = Value.ref _ from ro)
        exact d_setItem hu I (Or.inl ⟨_, k, e, keyOf_kV ek, h.1, rfl⟩) ri rv fun s' I' => ⟨_, I', h.2⟩
      · exact h.elim
    · exact h.elim
  · exact h.elim

/-! ### built-in functions -/
def rLen : List V → Hp → VK → Prop := fun vs H Q => match vs with
  | [.ref a] => (match rdo H a with
    | some (.lst xs) => Q (.int xs.length) H
    | some (.tup xs) => Q (.int xs.length) H
    | some (.dK kvs) => (∀ o, H a ≠ some (.frz o (.dK kvs))) ∧ Q (.int kvs.length) H
    | _ => False)
  | [.str z] => z.length ≤ sizeLine ∧ Q (.int z.length) H
  | _ => False
theorem callLen : CallR X (.builtin "len") rLen := by
  intro pins s σ H xs us Q I r h
  unfold rLen at h
  split at h
  · split at h
    · rename_i e
      exact call_len_seq pins s σ H _ us Q I r ⟨_, _, rfl, Or.inl (rdo_l e), h⟩
    · rename_i e
      exact call_len_seq pins s σ H _ us Q I r ⟨_, _, rfl, Or.inr (rdo_t e), h⟩
    · rename_i e
      rcases rdo_rd e with e | ⟨o, e⟩
      · exact call_lenD pins s σ H _ us Q I r ⟨_, _, rfl, e, h.2⟩
      · exact absurd e (h.1 o)
    · exact h.elim
  · exact call_len pins s σ H _ us Q I r ⟨_, _, rfl, ⟨h.1, rfl⟩, h.2⟩
  · exact h.elim
def rInt : List V → Hp → VK → Prop := fun vs H Q => match vs with
  | [.int i] => Q (.int i) H
  | [.bl k] => Q (.int (if k then 1 else 0)) H
  | _ => False
theorem callInt : CallR X (.type "int") rInt := by
  intro pins s σ H xs us Q I r h
  unfold rInt at h
  split at h
  · exact call_int1 pins s σ H _ us Q I r (Or.inl ⟨_, rfl, h⟩)
  · exact call_int1 pins s σ H _ us Q I r (Or.inr ⟨_, rfl, h⟩)
  · exact h.elim
def rMax : List V → Hp → VK → Prop := fun vs H Q => match vs with
  | [.int i, .int j] => Q (.int (if j > i then j else i)) H
  | _ => False
def rMin : List V → Hp → VK → Prop := fun vs H Q => match vs with
  | [.int i, .int j] => Q (.int (if j < i then j else i)) H
  | _ => False
theorem callMax (hc : X.calm = true) : CallR X (.builtin "max") rMax := by
  intro pins s σ H xs us Q I r h
  unfold rMax at h
  split at h
  · exact call_max2 hc pins s σ H _ us Q I r ⟨_, _, rfl, h⟩
  · exact h.elim
theorem callMin (hc : X.calm = true) : CallR X (.builtin "min") rMin := by
  intro pins s σ H xs us Q I r h
  unfold rMin at h
  split at h
  · exact call_min2 hc pins s σ H _ us Q I r ⟨_, _, rfl, h⟩
  · exact h.elim
def rList : List V → Hp → VK → Prop := fun vs H Q => match vs with
  | [.ref a] => (match rdo H a with
    | some (.lst xs) => ∀ p, H p = none → Q (.ref p) (upd H p (.lst xs))
    | some (.tup xs) => ∀ p, H p = none → Q (.ref p) (upd H p (.lst xs))
    | _ => False)
  | _ => False
theorem callList : CallR X (.type "list") rList := by
  intro pins s σ H xs us Q I r h
  unfold rList at h
  split at h
  · split at h
    · rename_i e
      exact call_list_of pins s σ H _ us Q I r ⟨_, _, rfl, Or.inl (rdo_l e), h⟩
    · rename_i e
      exact call_list_of pins s σ H _ us Q I r ⟨_, _, rfl, Or.inr (rdo_t e), h⟩
    · exact h.elim
  · exact h.elim
def rTuple : List V → Hp → VK → Prop := fun vs H Q => match vs with
  | [.ref a] => (match rdo H a with
    | some (.lst xs) => ∀ p, H p = none → Q (.ref p) (upd H p (.tup xs))
    | some (.tup _) => Q (.ref a) H
    | _ => False)
  | _ => False
theorem callTuple : CallR X (.type "tuple") rTuple := by
  intro pins s σ H xs us Q I r h
  unfold rTuple at h
  split at h
  · split at h
    · rename_i e
      exact call_tuple_of pins s σ H _ us Q I r ⟨_, _, rfl, Or.inl ⟨rdo_l e, h⟩⟩
    · rename_i e
      exact call_tuple_of pins s σ H _ us Q I r ⟨_, _, rfl, Or.inr ⟨rdo_t e, h⟩⟩
    · exact h.elim
  · exact h.elim
def rAbs : List V → Hp → VK → Prop := fun vs H Q => match vs with
  | [.int i] => Q (.int (if i < 0 then -i else i)) H
  | _ => False
theorem callAbs : CallR X (.builtin "abs") rAbs := by
  intro pins s σ H xs us Q I r h
  unfold rAbs at h
  split at h
  · exact call_abs pins s σ H _ us Q I r ⟨_, rfl, h⟩
  · exact h.elim

/-! ### isinstance of built-in classes -/
def tyN (x : V) (H : Hp) : Option String := match x with
  | .non => some "NoneType"
  | .bl _ => some "bool"
  | .int _ => some "int"
  | .str _ => some "str"
  | .ref a => (match rdo H a with
    | some (.lst _) => some "list"
    | some (.tup _) => some "tuple"
    | some (.dK _) => some "dict"
    | _ => none)
  | _ => none
def subN (T c : String) : Bool := T == c || (T == "bool" && c == "int")
def okCls : List String := ["str", "int", "bool", "tuple", "list", "dict"]
theorem kit_sub {K : PySem.W.Frag} {T c : String} (hT : T ∈ ["NoneType", "bool", "int", "str", "list", "tuple", "dict"]) (hc : c ∈ okCls) : PySem.W.kitOne K (.type T) (.type c) = some (subN T c) := by
  simp only [List.mem_cons, List.not_mem_nil, or_false] at hT
  simp only [okCls, List.mem_cons, List.not_mem_nil, or_false] at hc
  rcases hT with rfl | rfl | rfl | rfl | rfl | rfl | rfl <;> rcases hc with rfl | rfl | rfl | rfl | rfl | rfl <;> exact kit_ty (by decide +kernel)
theorem tyX_of {K : PySem.W.Frag} {x : V} {H : Hp} {T : String} (h : tyN x H = some T) : TyX K H x (.type T) ∧ T ∈ ["NoneType", "bool", "int", "str", "list", "tuple", "dict"] := by
  unfold tyN at h
  split at h
  · cases h; exact ⟨.base .non, by simp⟩
  · cases h; exact ⟨.base (.bl _), by simp⟩
  · cases h; exact ⟨.base (.int _), by simp⟩
  · cases h; exact ⟨.base (.str _), by simp⟩
  · split at h
    · rename_i e
      cases h
      rcases rdo_rd e with e | ⟨o, e⟩
      · exact ⟨.base (.lst e), by simp⟩
      · exact ⟨.base (.frz e), by simp⟩
    · rename_i e
      cases h
      rcases rdo_rd e with e | ⟨o, e⟩
      · exact ⟨.base (.tup e), by simp⟩
      · exact ⟨.fTuple e, by simp⟩
    · rename_i e
      cases h
      rcases rdo_rd e with e | ⟨o, e⟩
      · exact ⟨.base (.dK e), by simp⟩
      · exact ⟨.fDict e, by simp⟩
    · cases h
  · cases h
def rIsi : List V → Hp → VK → Prop := fun vs H Q => match vs with
  | [x, .ty c] => c ∈ okCls ∧ (match tyN x H with
    | some T => Q (.bl (subN T c)) H
    | none => False)
  | _ => False
theorem callIsi : CallR X (.builtin "isinstance") rIsi := by
  intro pins s σ H xs us Q I r h
  unfold rIsi at h
  split at h
  · rename_i x c
    obtain ⟨hc, h⟩ := h
    split at h
    · rename_i T e
      obtain ⟨h1, h2⟩ := tyX_of (K := X.K) e
      exact call_isi pins s σ H _ us Q I r ⟨x, .ty c, _, _, _, rfl, .ty c, h1, kit_sub h2 hc, h⟩
    · exact h.elim
  · exact h.elim

/-! ### slices -/
def rSlice : V → Option Int → Option Int → Hp → VK → Prop := fun x lo hi H Q => match x with
  | .str z => z.length ≤ sizeLine ∧ Q (.str (cutS z lo hi)) H
  | .ref a => (match rdo H a with
    | some (.lst xs) => ∀ p, H p = none → Q (.ref p) (upd H p (.lst (cutV xs lo hi)))
    | some (.tup xs) => (HT.sIx xs.length 0 lo = 0 ∧ HT.sIx xs.length xs.length hi = xs.length → Q (.ref a) H) ∧ (¬ (HT.sIx xs.length 0 lo = 0 ∧ HT.sIx xs.length xs.length hi = xs.length) → ∀ p, H p = none → Q (.ref p) (upd H p (.tup (cutV xs lo hi))))
    | _ => False)
  | _ => False
theorem slSlice : SlR X rSlice := by
  intro pins s σ H x v vl vu lo hi sl Q I rx hs pl pu h
  unfold rSlice at h
  split at h
  · exact sl_str pins s σ H _ v vl vu lo hi sl Q I rx hs pl pu ⟨_, rfl, h.1, h.2⟩
  · split at h
    · rename_i e
      exact sl_list pins s σ H _ v vl vu lo hi sl Q I rx hs pl pu ⟨_, _, rfl, rdo_l e, h⟩
    · rename_i e
      exact sl_tupA pins s σ H _ v vl vu lo hi sl Q I rx hs pl pu ⟨_, _, rfl, rdo_t e, h.1, h.2⟩
    · exact h.elim
  · exact h.elim

/-! ### methods of lists, texts -/
def isL (o : Option HO) : Bool := match o with
  | some (.lst _) => true
  | _ => false
theorem tyV_l {K : PySem.W.Frag} {a : Addr} {H : Hp} (h : isL (rdo H a) = true) : tyV K "list" (.ref a) H := by
  unfold isL at h
  split at h
  · rename_i e
    exact Or.inl ⟨rfl, _, rdo_l e⟩
  · cases h
def mAppend : V → List V → Hp → VK → Prop := fun x vs H Q => match x, vs with
  | .ref l, [y] => (match H l with
    | some (.lst xs) => xs.length < sizeLine ∧ Q .non (upd H l (.lst (xs ++ [y])))
    | _ => False)
  | _, _ => False
theorem mtAppend : MtR X "list.append" mAppend := by
  intro pins s σ H x xs v us Q I rx r h
  unfold mAppend at h
  split at h
  · split at h
    · rename_i e
      exact mt_append pins s σ H _ _ v us Q I rx r ⟨_, _, _, rfl, rfl, e, h.1, h.2⟩
    · exact h.elim
  · exact h.elim
def mExtend : V → List V → Hp → VK → Prop := fun x vs H Q => match x, vs with
  | .ref l, [.ref b] => (match H l, H b with
    | some (.lst xs), some (.lst ys) => xs.length + ys.length ≤ sizeLine ∧ Q .non (upd H l (.lst (xs ++ ys)))
    | _, _ => False)
  | _, _ => False
theorem mtExtend : MtR X "list.extend" mExtend := by
  intro pins s σ H x xs v us Q I rx r h
  unfold mExtend at h
  split at h
  · split at h
    · rename_i e1 e2
      exact mt_extend pins s σ H _ _ v us Q I rx r ⟨_, _, _, _, rfl, rfl, e1, e2, h.1, h.2⟩
    · exact h.elim
  · exact h.elim
/-- pop(), pop(i) -/
def mPop : V → List V → Hp → VK → Prop := fun x vs H Q => match x, vs with
  | .ref l, [] => (match H l with
    | some (.lst xs) => (match xs[xs.length - 1]? with
      | some y => Q y (upd H l (.lst xs.dropLast))
      | none => False)
    | _ => False)
  | .ref l, [.int i] => (match H l with
    | some (.lst xs) => (-(2 ^ 63) ≤ i ∧ i < 2 ^ 63) ∧ (match seqIndex? i xs.length with
      | some k => (match xs[k]? with
        | some y => Q y (upd H l (.lst (xs.eraseIdx k)))
        | none => False)
      | none => False)
    | _ => False)
  | _, _ => False
theorem mtPop : MtR X "list.pop" mPop := by
  intro pins s σ H x xs v us Q I rx r h
  unfold mPop at h
  split at h
  · split at h
    · rename_i e
      split at h
      · rename_i y ey
        exact mt_pop pins s σ H _ _ v us Q I rx r ⟨_, _, y, rfl, rfl, e, ey, h⟩
      · exact h.elim
    · exact h.elim
  · split at h
    · rename_i e
      obtain ⟨⟨h1, h2⟩, h⟩ := h
      split at h
      · rename_i k ek
        split at h
        · rename_i y ey
          exact mt_popAt pins s σ H _ _ v us Q I rx r ⟨_, _, _, k, y, rfl, rfl, e, h1, h2, ek, ey, h⟩
        · exact h.elim
      · exact h.elim
    · exact h.elim
  · exact h.elim
def mInsert : V → List V → Hp → VK → Prop := fun x vs H Q => match x, vs with
  | .ref l, [.int i, y] => (match H l with
    | some (.lst xs) => (xs.length < sizeLine ∧ 0 ≤ i ∧ i < 2 ^ 63) ∧ Q .non (upd H l (.lst (xs.take i.toNat ++ [y] ++ xs.drop i.toNat)))
    | _ => False)
  | _, _ => False
theorem mtInsert : MtR X "list.insert" mInsert := by
  intro pins s σ H x xs v us Q I rx r h
  unfold mInsert at h
  split at h
  · split at h
    · rename_i e
      exact mt_insert pins s σ H _ _ v us Q I rx r ⟨_, _, _, _, rfl, rfl, e, h.1.1, h.1.2.1, h.1.2.2, h.2⟩
    · exact h.elim
  · exact h.elim
def mUpper : V → List V → Hp → VK → Prop := fun x vs H Q => match x, vs with
  | .str a, [] => a.length ≤ 5592405 ∧ Q (.str (Txt.upper a)) H
  | _, _ => False
theorem mtUpper : MtR X "str.upper" mUpper := by
  intro pins s σ H x xs v us Q I rx r h
  unfold mUpper at h
  split at h
  · exact mt_upper pins s σ H _ _ v us Q I rx r ⟨_, rfl, rfl, h.1, h.2⟩
  · exact h.elim

/-! ### truth -/
def truN (x : V) (H : Hp) : Option Bool := match x with
  | .non => some false
  | .bl b => some b
  | .int i => some (i != 0)
  | .ref a => (match rdo H a with
    | some (.lst xs) => some (!xs.isEmpty)
    | some (.tup xs) => some (!xs.isEmpty)
    | some (.dK kvs) => (match H a with
      | some (.dK _) => some (!kvs.isEmpty)
      | _ => none)
    | _ => none)
  | _ => none
theorem truV_of {K : PySem.W.Frag} {x : V} {H : Hp} {k : Bool} (h : truN x H = some k) : TruV K x H k := by
  unfold truN at h
  split at h
  · cases h; rfl
  · cases h; rfl
  · cases h; rfl
  · split at h
    · rename_i e
      cases h
      exact Or.inl ⟨_, rdo_l e, rfl⟩
    · rename_i e
      cases h
      exact Or.inr (Or.inl ⟨_, rdo_t e, rfl⟩)
    · rename_i e
      split at h
      · rename_i kvs' e'
        cases h
        have e2 := rdo_of e' (fun _ _ z => nomatch z)
        rw [e2] at e
        cases e
        exact Or.inr (Or.inr ⟨_, e', rfl⟩)
      · cases h
    · cases h
  · cases h
/-- a value as a test -/
def tTru (ta : TE) : TT := fun σ H Q => ta σ H fun x H1 => match truN x H1 with
  | some k => Q k H1
  | none => False
theorem pt_tru {a : Expr} {ta : TE} (ha : PE X a ta) (he : ∀ whole, isTrue a X.env whole = (do let v ← whole; standAt a.pos; holding [v] (truthy v)) := by intro _; rfl) : PT X a (tTru ta) :=
  pt_truthR (r := fun x H Q => match truN x H with | some k => Q k H | none => False) ha (fun pins s σ H x v Q I rx h => by
    dsimp only at h
    split at h
    · rename_i k e
      exact tru_ok pins s σ H x v Q I rx ⟨k, truV_of e, h⟩
    · exact h.elim) he
end
end Rm
/-! Rm, part D: defs by name, the law's end. -/
namespace Rm
open PySem PySem.Spec L2
open PyProof.Rows hiding St

/-- built-in names that the module does not bind -/
structure Bt (mg : Str → Option Value) : Prop where
  len : mg "len" = none
  range : mg "range" = none
  int : mg "int" = none
  isinstance : mg "isinstance" = none
  repr : mg "repr" = none
  list : mg "list" = none
  tuple : mg "tuple" = none
  dict : mg "dict" = none
  set : mg "set" = none
  str : mg "str" = none
  bool : mg "bool" = none
  max : mg "max" = none
  min : mg "min" = none
  sorted : mg "sorted" = none
  enumerate : mg "enumerate" = none
  zip : mg "zip" = none
  abs : mg "abs" = none
  all : mg "all" = none
  any : mg "any" = none
  sup : mg "super" = none
  ve : mg "ValueError" = none
  te : mg "TypeError" = none
theorem bt_max : bootBuiltins "max" = some (.builtin "max") := by decide +kernel
theorem bt_min : bootBuiltins "min" = some (.builtin "min") := by decide +kernel
theorem bt_len : bootBuiltins "len" = some (.builtin "len") := by decide +kernel
theorem bt_all : bootBuiltins "all" = some (.builtin "all") := by decide +kernel
theorem bt_any : bootBuiltins "any" = some (.builtin "any") := by decide +kernel

section
variable (P : Program) (w : World) (K : PySem.W.Frag) (mg : Str → Option Value) (base : Heap)
/-- a def of the module, by its name -/
structure Def (x : Str) (ps : List Str) (k : Nat) (sp : Sp) : Prop where
  ex : ∃ (f : Addr) (fd : FuncData), mg x = some (.ref f) ∧ PySem.W.keepIn K (.ref f) = true ∧ Binds K fd ps [] ∧ FnOk P w K mg base (L2.CX P w) k f fd ps sp ∧ ∃ oc od osl, K.lookup f = some ⟨oc, od, .func fd, osl⟩
/-- the same where no repr is under way -/
structure DefG (x : Str) (ps : List Str) (k : Nat) (sp : Sp) : Prop where
  ex : ∃ (f : Addr) (fd : FuncData), mg x = some (.ref f) ∧ PySem.W.keepIn K (.ref f) = true ∧ Binds K fd ps [] ∧ FnG P w K mg base (L2.CX P w) k f fd ps sp ∧ ∃ oc od osl, K.lookup f = some ⟨oc, od, .func fd, osl⟩
end
section
variable {P : Program} {w : World} {K : PySem.W.Frag} {mg : Str → Option Value} {base : Heap}
theorem Def.g {x : Str} {ps : List Str} {k : Nat} {sp : Sp} (d : Def P w K mg base x ps k sp) : DefG P w K mg base x ps k sp := by
  obtain ⟨f, fd, a, b, c, F, l⟩ := d.ex
  exact ⟨f, fd, a, b, c, FnG.of F, l⟩
/-- a weaker promise -/
theorem Def.imp {x : Str} {ps : List Str} {k : Nat} {sp sp' : Sp} (d : Def P w K mg base x ps k sp) (h : ∀ vs H Q E, sp' vs H Q E → sp vs H Q E) : Def P w K mg base x ps k sp' := by
  obtain ⟨f, fd, a, b, c, F, l⟩ := d.ex
  exact ⟨f, fd, a, b, c, F.imp h, l⟩
/-- a def as it stands behind the top, its arguments bind in order -/
structure At (K : PySem.W.Frag) (mg : Str → Option Value) (x qual : Str) (st : Stmt) (ps : List Str) (f : Addr) (fd : FuncData) : Prop where
  fn : FunD K x qual (defArgs st) (defBody st) (defScope st) [] [] f fd
  mg : mg x = some (.ref f)
  b : Binds K fd ps []
theorem okD {x qual : Str} {st : Stmt} {f : Addr} {fd : FuncData} {N ps : List Str} {k : Nat} {sp : Sp} (F : At K mg x qual st ps f fd) (S : FnScope N ps (defScope st)) (len : ∀ vs H Q E, sp vs H Q E → vs.length = ps.length)
    (hb : ∀ (cdv : Value) (A : Around) (outer : List Env) (s : Shared) (H : Hp) (vs : List V) (Q : VK) (E : XK), Room k (cxOf (L2.CX P w) P w K mg base N qual (defScope st) f cdv A outer s H E).A →
      Takes (cxOf (L2.CX P w) P w K mg base N qual (defScope st) f cdv A outer s H E) (fun cls d _ H => E cls d H) →
      PassesOwn (model P w) (cxOf (L2.CX P w) P w K mg base N qual (defScope st) f cdv A outer s H E).A (cxOf (L2.CX P w) P w K mg base N qual (defScope st) f cdv A outer s H E).env (cxOf (L2.CX P w) P w K mg base N qual (defScope st) f cdv A outer s H E).xe → sp vs H Q E →
      ∃ t, PSs (cxOf (L2.CX P w) P w K mg base N qual (defScope st) f cdv A outer s H E) (defBody st) t ∧ t { nx := fun _ H' => Q .non H', rt := Q } (start N vs) H) : Def P w K mg base x ps (k + 1) sp := by
  have lk : ∃ oc od osl, K.lookup f = some ⟨oc, od, .func fd, osl⟩ := by
    obtain ⟨oc, od, _, _, _, _, _, _, _, osl, e, l, _⟩ := F.fn.ex
    exact ⟨oc, od, osl, by rw [l, e]⟩
  refine ⟨f, fd, F.mg, F.fn.kp, F.b, F.fn.ok S len fun cdv A outer s H vs Q E hr h => ?_, lk⟩
  exact hb cdv A outer s H vs Q E hr (takes_of rfl rfl rfl rfl) (passes_of rfl) h
theorem okDG {x qual : Str} {st : Stmt} {f : Addr} {fd : FuncData} {N ps : List Str} {k : Nat} {sp : Sp} (F : At K mg x qual st ps f fd) (S : FnScope N ps (defScope st)) (len : ∀ vs H Q E, sp vs H Q E → vs.length = ps.length)
    (hb : ∀ (cdv : Value) (A : Around) (outer : List Env) (s : Shared) (H : Hp) (vs : List V) (Q : VK) (E : XK), (cxOf (L2.CX P w) P w K mg base N qual (defScope st) f cdv A outer s H E).A.guards = some [] → Room k (cxOf (L2.CX P w) P w K mg base N qual (defScope st) f cdv A outer s H E).A →
      Takes (cxOf (L2.CX P w) P w K mg base N qual (defScope st) f cdv A outer s H E) (fun cls d _ H => E cls d H) →
      PassesOwn (model P w) (cxOf (L2.CX P w) P w K mg base N qual (defScope st) f cdv A outer s H E).A (cxOf (L2.CX P w) P w K mg base N qual (defScope st) f cdv A outer s H E).env (cxOf (L2.CX P w) P w K mg base N qual (defScope st) f cdv A outer s H E).xe → sp vs H Q E →
      ∃ t, PSs (cxOf (L2.CX P w) P w K mg base N qual (defScope st) f cdv A outer s H E) (defBody st) t ∧ t { nx := fun _ H' => Q .non H', rt := Q } (start N vs) H) : DefG P w K mg base x ps (k + 1) sp := by
  have lk : ∃ oc od osl, K.lookup f = some ⟨oc, od, .func fd, osl⟩ := by
    obtain ⟨oc, od, _, _, _, _, _, _, _, osl, e, l, _⟩ := F.fn.ex
    exact ⟨oc, od, osl, by rw [l, e]⟩
  refine ⟨f, fd, F.mg, F.fn.kp, F.b, okG F.fn S len fun cdv A outer s H vs Q E hG hr h => ?_, lk⟩
  exact hb cdv A outer s H vs Q E hG hr (takes_of rfl rfl rfl rfl) (passes_of rfl) h
/-- at the def's own object -/
theorem DefG.fn {x qual : Str} {st : Stmt} {ps : List Str} {k : Nat} {sp : Sp} {f0 : Addr} {fd0 : FuncData} (D : DefG P w K mg base x ps k sp) (F : At K mg x qual st ps f0 fd0) : FnG P w K mg base (L2.CX P w) k f0 fd0 ps sp := by
  obtain ⟨f, fd, a, _, _, Fn, oc, od, osl, l⟩ := D.ex
  have e := F.mg.symm.trans a
  injection e with e
  injection e with e
  subst e
  obtain ⟨oc', od', _, _, _, _, _, _, _, osl', ef, l', _⟩ := F.fn.ex
  have e2 := l'.symm.trans l
  injection e2 with e2
  injection e2 with _ _ e2 _
  injection e2 with e2
  rw [e2]
  exact Fn
end

section
variable {X : Cx} {k : Nat} {ps : List Str} {sp : Sp} {x : Str} {p pos : Pos} {e : Expr} {es : List Expr} {t : TA} {W : WX}
theorem pe_fn (D : Def X.prog X.w X.K X.mg X.base x ps k sp) (hr : Room k X.A) (tk : Takes X W) (ha : PA X (e :: es) t) (hg : Gl X x := by rfl) (hdb : (x == ("__debug__" : Str)) = false := by decide)
    (he : starEach (e :: es) X.env = (false, eval e X.env) :: starEach es X.env := by rfl) (hpl : (backTo pos (starEach es X.env)).any (·.1) = false := by rfl) : PE X (.Call (.Name x p) (e :: es) [] pos) (tCallS sp (WE W) t) := by
  obtain ⟨f, fd, a, b, c, F, _⟩ := D.ex
  exact pe_callS F hr hg a b c (fun σ => passAt tk σ) ha hdb he hpl
theorem pe_fnG (D : DefG X.prog X.w X.K X.mg X.base x ps k sp) (hG : X.A.guards = some []) (hr : Room k X.A) (tk : Takes X W) (ha : PA X (e :: es) t) (hg : Gl X x := by rfl) (hdb : (x == ("__debug__" : Str)) = false := by decide)
    (he : starEach (e :: es) X.env = (false, eval e X.env) :: starEach es X.env := by rfl) (hpl : (backTo pos (starEach es X.env)).any (·.1) = false := by rfl) : PE X (.Call (.Name x p) (e :: es) [] pos) (tCallS sp (WE W) t) := by
  obtain ⟨f, fd, a, b, c, F, _⟩ := D.ex
  exact pe_callG F hG hr hg a b c (fun σ => passAt tk σ) ha hdb he hpl
/-- f() -/
theorem pe_fn0 (D : Def X.prog X.w X.K X.mg X.base x ps k sp) (hr : Room k X.A) (tk : Takes X W) (hg : Gl X x := by rfl) (hdb : (x == ("__debug__" : Str)) = false := by decide) : PE X (.Call (.Name x p) [] [] pos) (tCallS sp (WE W) tNil) := by
  obtain ⟨f, fd, a, b, c, F, _⟩ := D.ex
  refine ⟨fun pins s σ H Q I h => ?_⟩
  refine wpAny_Call_Name_kw (ld_glob I hg a ?_ hdb)
  exact PySem.W.callWith_K0 I.kIn b (run_fnS (us := []) F hr c (passAt tk σ) I .nil h)
/-- the name in slot i -/
def tV (i : Nat) : TE := fun σ H Q => match σ[i]? with
  | some (some v) => Q v H
  | _ => False
theorem pn (i : Nat) (hN : X.N[i]? = some x := by rfl) (hv : Vis X.env.scope x := by first | exact Or.inl rfl | exact Or.inr (Or.inl rfl) | exact Or.inr (Or.inr rfl)) (hd : (x == ("__debug__" : Str)) = false := by decide)
    (hcd : (x == ("__classdict__" : Str)) = false := by decide) : PE X (.Name x pos) (tV i) := ⟨fun pins s σ H Q I h => by
  refine (pe_var (X := X) (i := i) hN hv hd hcd).run pins s σ H Q I ?_
  unfold tV at h
  split at h
  · rename_i v e
    exact ⟨v, e, h⟩
  · exact h.elim⟩
/-- a module's int -/
theorem pe_g {i : Int} (hm : ∃ t, X.mg x = some (.int i t)) (hg : Gl X x := by rfl) (hd : (x == ("__debug__" : Str)) = false := by decide) : PE X (.Name x pos) (tC (.int i)) := by
  obtain ⟨t, e⟩ := hm
  exact pe_glob hg e ⟨_, rfl⟩ hd
/-- one statement at a time: what follows has a name -/
theorem sq {t u : TS} {D : Ends} {σ : St} {H : Hp} (h : ∀ N : St → Hp → Prop, (∀ σ' H', u D σ' H' → N σ' H') → t { D with nx := N } σ H) : tSeq t u D σ H := h _ fun _ _ z => z
theorem room100 {A : Around} {n : Nat} (hr : Room n A) : A.units + 100 < cLine := by
  have := hr.un
  omega
end
end Rm
/-! Rm, part T: the tape of draws, as all laws have it. -/
namespace Rm
open PySem PySem.Spec L2
open PyProof.Rows hiding St
def tapeK (d m : Int) : List (Key × V) := [(.inr "digits", .int d), (.inr "mixed", .int m)]
theorem tape_d (d m : Int) : valV (tapeK d m) (.inr "digits" : Key) = some (.int d) := by
  unfold tapeK
  rw [valV_pos rfl]
theorem kDM : ¬ ("digits" : Str) = "mixed" := by decide +kernel
theorem tape_m (d m : Int) : valV (tapeK d m) (.inr "mixed" : Key) = some (.int m) := by
  unfold tapeK
  rw [valV_neg (fun z => kDM (Sum.inr.inj z)), valV_pos rfl]
theorem tape_pd (d m d' : Int) : putK (tapeK d m) (.inr "digits" : Key) (.int d') = tapeK d' m := by
  have h : ¬ ((.inr "mixed" : Key) = .inr "digits") := fun z => kDM (Sum.inr.inj z).symm
  simp [putK, tapeK, h]
theorem tape_pm (d m m' : Int) : putK (tapeK d m) (.inr "mixed" : Key) (.int m') = tapeK d m' := by
  have h : ¬ ((.inr "digits" : Key) = .inr "mixed") := fun z => kDM (Sum.inr.inj z)
  simp [putK, tapeK, h]
theorem tape_len (d m : Int) : (tapeK d m).length = 2 := rfl
/-- a tape stands at t -/
def TapeAt (H : Hp) (t : Addr) : Prop := ∃ d m, H t = some (.dK (tapeK d m)) ∧ 0 ≤ m ∧ m < 2 ^ 32
theorem two_lt_line {n : Nat} (h : n ≤ 1000) : n < sizeLine := Nat.lt_of_le_of_lt h (by decide)
theorem mul_ok {i j : Int} (h : i.natAbs < 2 ^ 64) : IntMulOk i j := .of_left (PySem.intBits_le_64 (by omega) (by omega))
theorem bits_small {i : Int} (h : i.natAbs < 2 ^ 64) : (Builtin.Int.intBits i : Int) ≤ 64 := by
  have := PySem.intBits_le_64 (k := i) (by omega) (by omega)
  omega
theorem bits_nat {i : Int} {k : Nat} (h : i.natAbs < 2 ^ k) : Builtin.Int.intBits i ≤ k := PyProof.Rows.intBits_le h
theorem bits_lt {i : Int} {k : Nat} (h : Builtin.Int.intBits i ≤ k) : i.natAbs < 2 ^ k := by
  unfold Builtin.Int.intBits at h
  split at h
  · rename_i e
    have e' : i = 0 := by simpa using e
    subst e'
    exact Nat.two_pow_pos k
  · exact Nat.lt_of_lt_of_le Nat.lt_log2_self (Nat.pow_le_pow_right (by decide) h)
theorem mul_sq {z : Int} (h : Builtin.Int.intBits z ≤ 1048576) : IntMulOk z z := by
  unfold IntMulOk
  intro c
  have c2 := (Bool.and_eq_true_iff.mp c).2
  unfold Builtin.Int.intTooBig at c2
  have c3 := of_decide_eq_true c2
  rw [show bitsLine = 134217728 from by decide] at c3
  omega
theorem tape_abs {m z : Int} {k : Nat} (hm : 0 ≤ m ∧ m < 2147483565) (hk : 100 ≤ k) (hz : z.natAbs < 2 ^ k) : (m * 30013 + z * z + 11).natAbs < 2 ^ (k + k + 1) := by
  have h1 : (z * z).natAbs < 2 ^ (k + k) := by
    rw [Int.natAbs_mul, Nat.pow_add]
    exact Nat.mul_lt_mul'' hz hz
  have a1 : (m * 30013 + z * z + 11).natAbs ≤ (m * 30013 + 11).natAbs + (z * z).natAbs := by
    rw [show m * 30013 + z * z + 11 = (m * 30013 + 11) + z * z by omega]
    exact Int.natAbs_add_le _ _
  have a2 : (m * 30013 + 11).natAbs ≤ 2 ^ 100 := by omega
  have a3 : (2 : Nat) ^ 100 ≤ 2 ^ (k + k) := Nat.pow_le_pow_right (by decide) (by omega)
  have a4 : (2 : Nat) ^ (k + k + 1) = 2 ^ (k + k) * 2 := Nat.pow_succ ..
  omega
theorem tape_bits {m z : Int} (hm : 0 ≤ m ∧ m < 2147483565) (h : Builtin.Int.intBits z ≤ 1048576) : (Builtin.Int.intBits (m * 30013 + z * z + 11) : Int) * 2 ≤ 2 ^ 27 := by
  have h3 := bits_nat (tape_abs hm (by decide) (bits_lt h))
  omega
theorem at_script {ns : List Int} {st : Int} (h0 : 0 ≤ st) (h1 : st < (ns.length : Int)) : atI (ns.map V.int) st = some (V.int (ns.getD st.toNat 0)) := by
  have e : st = ((st.toNat : Nat) : Int) := by omega
  have hl : st.toNat < ns.length := by omega
  rw [e]
  refine (atI_nat (j := st.toNat) (v := V.int (ns.getD st.toNat 0)) ?_)
  rw [List.getElem?_map, List.getElem?_eq_getElem hl, List.getD_eq_getElem?_getD, List.getElem?_eq_getElem hl]
  rfl
theorem merge_tape (d m : Int) : mergeK [] [((.inr "digits" : Key), V.int d), (.inr "mixed", .int m)] = tapeK d m := by
  have h : ¬ ((.inr "digits" : Key) = .inr "mixed") := fun z => kDM (Sum.inr.inj z)
  simp [mergeK, putK, tapeK, h]
end Rm
/-! Rm, part E: written data (literals), parts of heaps. -/
namespace Rm
open PySem PySem.Spec L2
open PyProof.Rows hiding St

/-- H without t -/
def hid (t : Addr) (H : Hp) : Hp := fun b => if b = t then none else H b
theorem hid_ne {t b : Addr} {H : Hp} (h : b ≠ t) : hid t H b = H b := if_neg h
theorem hid_same {t : Addr} {H : Hp} : hid t H t = none := if_pos rfl
theorem hid_some {t b : Addr} {H : Hp} {o : HO} (h : hid t H b = some o) : b ≠ t ∧ H b = some o := by
  unfold hid at h
  split at h
  · cases h
  · rename_i n
    exact ⟨n, h⟩
theorem Ext.hid_in {t : Addr} {H : Hp} : Ext (hid t H) H := fun a o h => (hid_some h).2
theorem Ext.hid {t : Addr} {H H' : Hp} (h : ∀ b o, b ≠ t → H b = some o → H' b = some o) : Ext (hid t H) (hid t H') := fun a o e => by
  obtain ⟨n, q⟩ := hid_some e
  rw [hid_ne n]
  exact h a o n q
/-- no sealed cell -/
def nofrz : HO → Bool
  | .frz _ _ => false
  | _ => true
/-- what is new in H' (sealed cells left out) -/
def newp (H H' : Hp) : Hp := fun b => match H b, H' b with
  | none, some o => if nofrz o then some o else none
  | _, _ => none
theorem newp_some' {H H' : Hp} {b : Addr} {o : HO} (h : newp H H' b = some o) : H b = none ∧ H' b = some o ∧ nofrz o = true := by
  unfold newp at h
  split at h
  · rename_i e1 e2
    split at h
    · rename_i n
      cases h
      exact ⟨e1, e2, n⟩
    · cases h
  · cases h
theorem newp_some {H H' : Hp} {b : Addr} {o : HO} (h : newp H H' b = some o) : H b = none ∧ H' b = some o := ⟨(newp_some' h).1, (newp_some' h).2.1⟩
theorem newp_of {H H' : Hp} {b : Addr} {o : HO} (h : H b = none) (h' : H' b = some o) (n : nofrz o = true := by rfl) : newp H H' b = some o := by
  unfold newp
  rw [h, h']
  exact if_pos n
theorem Ext.none {H H' : Hp} (e : Ext H H') {b : Addr} (h : H' b = none) : H b = none := by
  cases q : H b with
  | none => rfl
  | some o => rw [e b o q] at h; cases h
theorem newp_in {H H' : Hp} : Ext (newp H H') H' := fun _ _ h => (newp_some h).2
theorem newp_left {H H1 H2 : Hp} (e : Ext H1 H2) : Ext (newp H H1) (newp H H2) := fun a o h => by
  obtain ⟨h1, h2, n⟩ := newp_some' h
  exact newp_of h1 (e a o h2) n
theorem newp_right {H H1 H2 : Hp} (e : Ext H H1) : Ext (newp H1 H2) (newp H H2) := fun a o h => by
  obtain ⟨h1, h2, n⟩ := newp_some' h
  exact newp_of (e.none h1) h2 n
theorem newp_hid {t : Addr} {H H' H'' : Hp} {x : HO} (hT : H t = some x) (h : ∀ b, b ≠ t → H'' b = H' b) : Ext (newp H H') (hid t H'') := fun a o e => by
  obtain ⟨h1, h2⟩ := newp_some e
  have n : a ≠ t := fun z => by rw [z, hT] at h1; cases h1
  rw [hid_ne n, h a n]
  exact h2

/-- a written datum -/
def tLit (d : PyData) : TE := fun _ H Q => ∀ (v : V) (H' : Hp), Ext H H' → Dr (newp H H') v d → Q v H'
def tLitA (ds : List PyData) : TA := fun _ H Q => ∀ (vs : List V) (H' : Hp), Ext H H' → DrA (newp H H') vs ds → Q vs H'
section
variable {X : Cx}
theorem PE.imp {e : Expr} {t t' : TE} (h : PE X e t) (i : ∀ σ H Q, t' σ H Q → t σ H Q) : PE X e t' := ⟨fun pins s σ H Q I q => h.run pins s σ H Q I (i σ H Q q)⟩
theorem PA.imp {es : List Expr} {t t' : TA} (h : PA X es t) (i : ∀ σ H Q, t' σ H Q → t σ H Q) : PA X es t' := ⟨fun pos pins s σ H Q I q => h.run pos pins s σ H Q I (i σ H Q q)⟩
theorem li_int {i j pos} : PE X (.Constant (.int i) j pos) (tLit (.int i)) := PE.imp pe_int fun _ H _ q => q (.int i) H (Ext.refl H) (.int i)
theorem li_bl {b j pos} : PE X (.Constant (.bool b) j pos) (tLit (.bool b)) := PE.imp pe_bl fun _ H _ q => q (.bl b) H (Ext.refl H) (.bl b)
theorem li_non {j pos} : PE X (.Constant .none j pos) (tLit .none) := PE.imp pe_non fun _ H _ q => q .non H (Ext.refl H) .non
theorem li_str {x j pos} : PE X (.Constant (.str x) j pos) (tLit (.str x)) := PE.imp pe_str fun _ H _ q => q (.str x) H (Ext.refl H) (.str x)
/-- a number reckoned from written ones -/
theorem li_num {e : Expr} {t : TE} {i : Int} (h : PE X e t) (i' : ∀ σ H (Q : VK), Q (.int i) H → t σ H Q) : PE X e (tLit (.int i)) := PE.imp h fun σ H Q q => i' σ H Q (q (.int i) H (Ext.refl H) (.int i))
theorem la_nil : PA X [] (tLitA []) := PA.imp pa_nil fun _ H _ q => q [] H (Ext.refl H) .nil
theorem la_cons {e : Expr} {es : List Expr} {d : PyData} {ds : List PyData} (h : PE X e (tLit d)) (hr : PA X es (tLitA ds)) (hs : starEach (e :: es) X.env = (false, eval e X.env) :: starEach es X.env := by rfl) : PA X (e :: es) (tLitA (d :: ds)) :=
  PA.imp (pa_cons h hr hs) fun σ H Q q v H1 e1 d1 vs H2 e2 d2 => q (v :: vs) H2 (e1.trans e2) (.cons (Dr.ext (newp_left e2) d1) (DrA.ext (newp_right e1) d2))
theorem li_tup {es : List Expr} {x1 pos} {ds : List PyData} (h : PA X es (tLitA ds)) (hl : ds.length ≤ 1000 := by decide) : PE X (.Tuple es x1 pos) (tLit (.tuple ds)) :=
  PE.imp (pe_tup h) fun σ H Q q vs H1 e1 d1 => ⟨by have := d1.length; exact Nat.le_of_lt (two_lt_line (by omega)), fun p hp => q (.ref p) _ (e1.trans (Ext.new hp)) (.tup (rdo_of (newp_of (e1.none hp) upd_same) (fun _ _ z => nomatch z)) (DrA.ext (newp_left (Ext.new hp)) d1))⟩
theorem li_lst {es : List Expr} {pos} {ds : List PyData} (h : PA X es (tLitA ds)) (hl : ds.length ≤ 1000 := by decide) : PE X (.List es pos) (tLit (.list ds)) :=
  PE.imp (pe_lst h) fun σ H Q q vs H1 e1 d1 => ⟨by have := d1.length; exact Nat.le_of_lt (two_lt_line (by omega)), fun p hp => q (.ref p) _ (e1.trans (Ext.new hp)) (.lst (rdo_of (newp_of (e1.none hp) upd_same) (fun _ _ z => nomatch z)) (DrA.ext (newp_left (Ext.new hp)) d1))⟩
theorem li_dict0 {pos} : PE X (.Dict [] [] pos) (tLit (.dict [])) := PE.imp pe_dnewK fun σ H Q q p hp => q (.ref p) _ (Ext.new hp) (.dct (rdo_of (newp_of hp upd_same) (fun _ _ z => nomatch z)) .nil)
/-- a dict of one written pair -/
theorem li_dict1 {k v : Expr} {kk : Key} {d : PyData} {pos} (hk : PE X k (tC (kV kk))) (hv : PE X v (tLit d)) : PE X (.Dict [some k] [v] pos) (tLit (.dict [(keyD kk, d)])) :=
  PE.imp (pe_disp (pps_cons hk hv pps_nil) rfl rfl (fun z => by cases z) (by show 1 ≤ 15; decide)) fun σ H Q q p hp => fun x H1 e1 d1 => by
    have ep : H1 p = some (.dK []) := e1 _ _ upd_same
    refine ⟨ep, [(kk, x)], rfl, by show 1 ≤ 15; decide, q (.ref p) _ ?_ ?_⟩
    · exact fun a o h => by rw [upd_ne (ne_of_none h hp)]; exact e1 a o (by rw [upd_ne (ne_of_none h hp)]; exact h)
    · refine .dct (rdo_of (newp_of hp upd_same) (fun _ _ z => nomatch z)) (.cons (Dr.ext (fun a o h => ?_) d1) .nil)
      obtain ⟨h1, h2, nf⟩ := newp_some' h
      have n : a ≠ p := fun z => by rw [z, upd_same] at h1; cases h1
      rw [upd_ne n] at h1
      exact newp_of h1 (by rw [upd_ne n]; exact h2) nf
end
theorem lst_new {H H' : Hp} {a : Addr} {xs : List V} (h : rdo (newp H H') a = some (.lst xs)) : H' a = some (.lst xs) := by
  rcases rdo_rd h with e | ⟨o, e⟩
  · exact (newp_some e).2
  · have := (newp_some' e).2.2
    cases this
theorem DrA.append {H : Hp} : ∀ {vs ws : List V} {ds es : List PyData}, DrA H vs ds → DrA H ws es → DrA H (vs ++ ws) (ds ++ es)
  | [], _, _, _, a, b => by cases a; exact b
  | v :: vs, _, _, _, a, b => by
    cases a with
    | cons h a => exact .cons h (DrA.append a b)
theorem DrA.mem {H : Hp} {v : V} : ∀ {vs : List V} {ds : List PyData}, DrA H vs ds → v ∈ vs → ∃ d, d ∈ ds ∧ Dr H v d
  | [], _, _, h => by cases h
  | w :: vs, _, a, h => by
    cases a with
    | @cons _ _ d ds h1 a =>
      rcases List.mem_cons.mp h with e | h
      · subst e
        exact ⟨d, List.mem_cons_self, h1⟩
      · obtain ⟨d', m, q⟩ := DrA.mem a h
        exact ⟨d', List.mem_cons_of_mem _ m, q⟩
theorem dr_some {H : Hp} {a : Addr} {d : PyData} (h : Dr H (.ref a) d) : ∃ o, H a = some o := by
  cases h with
  | lst e _ => exact rdo_some e
  | tup e _ => exact rdo_some e
  | dct e _ => exact rdo_some e
theorem dr_new {H H' : Hp} {a : Addr} {d : PyData} (h : Dr (newp H H') (.ref a) d) : H a = none := (newp_some (dr_some h).choose_spec).1
end Rm
/-! Rm, part F: how long a datum is, shown. -/
namespace Rm
open PySem PySem.Spec L2
open PyProof.Rows hiding St

mutual
def lnB : PyData → Nat
  | .none => 4
  | .bool _ => 5
  | .int _ => 1921
  | .str x => 10 * x.length + 2
  | .list xs => lnA xs + 3
  | .tuple xs => lnA xs + 4
  | .dict kvs => lnK kvs + 3
def lnA : List PyData → Nat
  | [] => 0
  | x :: xs => lnB x + 2 + lnA xs
def lnK : List (PyData × PyData) → Nat
  | [] => 0
  | (k, v) :: r => lnB k + lnB v + 4 + lnK r
end
mutual
def okB : PyData → Bool
  | .none => true
  | .bool _ => true
  | .int i => decide (i.natAbs.log2 < 1920)
  | .str x => x.cps.toList.all fun c => decide (c < 16 ^ 8)
  | .list xs => okA xs
  | .tuple xs => okA xs
  | .dict kvs => okK kvs
def okA : List PyData → Bool
  | [] => true
  | x :: xs => okB x && okA xs
def okK : List (PyData × PyData) → Bool
  | [] => true
  | (k, v) :: r => okB k && (okB v && okK r)
end
theorem listText_le (ts : List Str) : (listText ts).length ≤ piled ts + 3 := by
  cases ts with
  | nil => decide
  | cons t r =>
    unfold listText
    rw [strLen_append]
    show (textFrom 1 _ r).length + 1 ≤ _
    rw [textFrom_length_pos r 1 _ (Nat.succ_pos 0), piled_cons, strLen_append, strLen_append]
    show 1 + 0 + t.length + piled r + 1 ≤ _
    omega
theorem join_le (ts : List Str) : (Str.join ", " ts).length ≤ piled ts := by
  by_cases h : ts = []
  · subst h; decide
  · have := join_length_add ts h
    omega
theorem tupleText_le (ts : List Str) : (tupleText ts).length ≤ piled ts + 4 := by
  unfold tupleText
  rw [strLen_append, strLen_append]
  have e1 : ((("(" : String) : Str)).length = 1 := rfl
  have e3 : (((if ts.length == 1 then ",)" else ")" : String) : Str)).length ≤ 2 := by split <;> decide
  have := join_le ts
  rw [e1]
  omega
theorem dictText_le (ts : List Str) : (dictText ts).length ≤ piled ts + 3 := by
  unfold dictText
  rw [strLen_append, strLen_append]
  have := join_le ts
  show 1 + _ + 1 ≤ _
  omega
mutual
theorem shown_le : ∀ d : PyData, okB d = true → d.showable = true ∧ d.shown.length ≤ lnB d
  | .none, _ => by simp only [PyData.showable, PyData.shown, lnB]; exact ⟨trivial, by decide⟩
  | .bool b, _ => by simp only [PyData.showable, PyData.shown, lnB]; exact ⟨trivial, by cases b <;> decide⟩
  | .int i, h => by
    simp only [okB] at h
    simp only [PyData.showable, PyData.shown, lnB]
    exact ⟨h, int_text_len_1921 (of_decide_eq_true h)⟩
  | .str x, h => by
    simp only [okB, List.all_eq_true, decide_eq_true_eq] at h
    simp only [PyData.showable, PyData.shown, lnB]
    exact ⟨trivial, StrLaws.reprText_len x h⟩
  | .list xs, h => by
    simp only [okB] at h
    obtain ⟨a, b⟩ := shown_leA xs h
    simp only [PyData.showable, PyData.shown, lnB]
    exact ⟨a, Nat.le_trans (listText_le _) (by omega)⟩
  | .tuple xs, h => by
    simp only [okB] at h
    obtain ⟨a, b⟩ := shown_leA xs h
    simp only [PyData.showable, PyData.shown, lnB]
    exact ⟨a, Nat.le_trans (tupleText_le _) (by omega)⟩
  | .dict kvs, h => by
    simp only [okB] at h
    obtain ⟨a, b⟩ := shown_leK kvs h
    simp only [PyData.showable, PyData.shown, lnB]
    exact ⟨a, Nat.le_trans (dictText_le _) (by omega)⟩
theorem shown_leA : ∀ ds : List PyData, okA ds = true → PyData.showableAll ds = true ∧ piled (PyData.shownAll ds) ≤ lnA ds
  | [], _ => by simp only [PyData.showableAll, PyData.shownAll, lnA, piled_nil]; exact ⟨trivial, Nat.le_refl _⟩
  | x :: xs, h => by
    simp only [okA, Bool.and_eq_true] at h
    obtain ⟨a, b⟩ := shown_le x h.1
    obtain ⟨c, d⟩ := shown_leA xs h.2
    simp only [PyData.showableAll, PyData.shownAll, lnA, piled_cons, a, c]
    exact ⟨rfl, by omega⟩
theorem shown_leK : ∀ ds : List (PyData × PyData), okK ds = true → PyData.showableKv ds = true ∧ piled (PyData.shownKv ds) ≤ lnK ds
  | [], _ => by simp only [PyData.showableKv, PyData.shownKv, lnK, piled_nil]; exact ⟨trivial, Nat.le_refl _⟩
  | (k, v) :: xs, h => by
    simp only [okK, Bool.and_eq_true] at h
    obtain ⟨a, b⟩ := shown_le k h.1
    obtain ⟨a', b'⟩ := shown_le v h.2.1
    obtain ⟨c, d⟩ := shown_leK xs h.2.2
    simp only [PyData.showableKv, PyData.shownKv, lnK, piled_cons, a, a', c]
    refine ⟨rfl, ?_⟩
    rw [strLen_append, strLen_append]
    show k.shown.length + 2 + _ + 2 + _ ≤ _
    omega
end
/-- shown at most n signs, at most k deep -/
def fineB (n k : Nat) (d : PyData) : Bool := okB d && (decide (lnB d ≤ n) && decide (d.depth ≤ k))
def Fine (n k : Nat) (d : PyData) : Prop := fineB n k d = true
theorem fine_iff {n k : Nat} {d : PyData} : Fine n k d ↔ okB d = true ∧ lnB d ≤ n ∧ d.depth ≤ k := by
  simp only [Fine, fineB, Bool.and_eq_true, decide_eq_true_eq]
theorem Fine.mono {n k n' k' : Nat} {d : PyData} (h : Fine n k d) (hn : n ≤ n') (hk : k ≤ k') : Fine n' k' d := by
  obtain ⟨a, b, c⟩ := fine_iff.mp h
  exact fine_iff.mpr ⟨a, by omega, by omega⟩
theorem fine_none {n k : Nat} (h : 4 ≤ n := by decide) : Fine n k .none := fine_iff.mpr ⟨by simp only [okB], by simp only [lnB]; exact h, by simp only [PyData.depth]; omega⟩
theorem fine_bool {n k : Nat} {b : Bool} (h : 5 ≤ n := by decide) : Fine n k (.bool b) := fine_iff.mpr ⟨by simp only [okB], by simp only [lnB]; exact h, by simp only [PyData.depth]; omega⟩
theorem log2_small {i : Int} (h0 : -(2 ^ 200) < i) (h1 : i < 2 ^ 200) : i.natAbs.log2 < 1920 := by
  by_cases z : i.natAbs = 0
  · rw [z]; decide
  · exact (Nat.log2_lt z).mpr (Nat.lt_of_lt_of_le (show i.natAbs < 2 ^ 200 by omega) (Nat.pow_le_pow_right (by decide) (by decide)))
theorem fine_int {n k : Nat} {i : Int} (h0 : -(2 ^ 200) < i) (h1 : i < 2 ^ 200) (h : 1921 ≤ n := by decide) : Fine n k (.int i) := fine_iff.mpr ⟨by simp only [okB, decide_eq_true_eq]; exact log2_small h0 h1, by simp only [lnB]; exact h, by simp only [PyData.depth]; omega⟩
theorem fine_str {n k : Nat} {x : Str} (hx : ∀ c ∈ x.cps.toList, c < 16 ^ 8) (h : 10 * x.length + 2 ≤ n) : Fine n k (.str x) := fine_iff.mpr ⟨by simp only [okB, List.all_eq_true, decide_eq_true_eq]; exact hx, by simp only [lnB]; exact h, by simp only [PyData.depth]; omega⟩
theorem fine_all {n k : Nat} : ∀ {ds : List PyData}, (∀ d ∈ ds, Fine n k d) → okA ds = true ∧ lnA ds ≤ ds.length * (n + 2) ∧ PyData.depthAll ds ≤ k
  | [], _ => ⟨by simp only [okA], by simp only [lnA]; omega, by simp only [PyData.depthAll]; omega⟩
  | d :: ds, h => by
    obtain ⟨a, b, c⟩ := fine_iff.mp (h d List.mem_cons_self)
    obtain ⟨a', b', c'⟩ := fine_all (ds := ds) (fun e he => h e (List.mem_cons_of_mem _ he))
    refine ⟨by simp only [okA, a, a']; rfl, ?_, ?_⟩
    · simp only [lnA, List.length_cons, Nat.succ_mul]
      omega
    · simp only [PyData.depthAll]
      omega
theorem fine_list {n k m : Nat} {ds : List PyData} (h : ∀ d ∈ ds, Fine n k d) (hl : ds.length ≤ m) : Fine (m * (n + 2) + 4) (k + 1) (.list ds) := by
  obtain ⟨a, b, c⟩ := fine_all h
  have := Nat.mul_le_mul_right (n + 2) hl
  exact fine_iff.mpr ⟨by simp only [okB]; exact a, by simp only [lnB]; omega, by simp only [PyData.depth]; omega⟩
theorem fine_tup {n k m : Nat} {ds : List PyData} (h : ∀ d ∈ ds, Fine n k d) (hl : ds.length ≤ m) : Fine (m * (n + 2) + 4) (k + 1) (.tuple ds) := by
  obtain ⟨a, b, c⟩ := fine_all h
  have := Nat.mul_le_mul_right (n + 2) hl
  exact fine_iff.mpr ⟨by simp only [okB]; exact a, by simp only [lnB]; omega, by simp only [PyData.depth]; omega⟩
theorem fine_mem {n k : Nat} : ∀ {ds : List PyData}, okA ds = true → lnA ds ≤ n → PyData.depthAll ds ≤ k → ∀ d ∈ ds, Fine n k d
  | [], _, _, _, d, hd => by cases hd
  | e :: r, a, b, c, d, hd => by
    simp only [okA, Bool.and_eq_true] at a
    simp only [lnA] at b
    simp only [PyData.depthAll] at c
    rcases List.mem_cons.mp hd with rfl | hd
    · exact fine_iff.mpr ⟨a.1, by omega, by omega⟩
    · exact fine_mem a.2 (by omega) (by omega) d hd
theorem Fine.of_tup {n k : Nat} {ds : List PyData} (h : Fine n (k + 1) (.tuple ds)) : ∀ d ∈ ds, Fine n k d := by
  obtain ⟨a, b, c⟩ := fine_iff.mp h
  simp only [okB] at a
  simp only [lnB] at b
  simp only [PyData.depth] at c
  exact fine_mem a (by omega) (by omega)
theorem Fine.shows {n k : Nat} {d : PyData} (h : Fine n k d) (hn : n ≤ sizeLine) (hk : k ≤ 60) : d.showable = true ∧ d.shown.length ≤ sizeLine ∧ d.depth ≤ 60 := by
  obtain ⟨a, b, c⟩ := fine_iff.mp h
  obtain ⟨e, f⟩ := shown_le d a
  exact ⟨e, by omega, by omega⟩
theorem size_big : 2000000 ≤ sizeLine := by decide
end Rm
/-! Rm, part G: calls with keywords, module tuples. -/
namespace Rm
open PySem PySem.Spec L2
open PyProof.Rows hiding St
section
variable (P : Program) (w : World) (K : PySem.W.Frag) (mg : Str → Option Value) (base : Heap)
/-- a def called with n values and the keywords ks -/
structure Kw (x : Str) (n : Nat) (ks : List Str) (k : Nat) (sp : Sp) (gV : List V → List V → List V) : Prop where
  ex : ∃ (f : Addr) (fd : FuncData) (ps : List Str) (g : List Value → List Value → List Value), mg x = some (.ref f) ∧ PySem.W.keepIn K (.ref f) = true ∧ KBn K fd ps n ks g gV ∧ FnOk P w K mg base (L2.CX P w) k f fd ps sp
end
section
variable {P : Program} {w : World} {K : PySem.W.Frag} {mg : Str → Option Value} {base : Heap}
theorem Def.kw {x qual : Str} {ps ks : List Str} {k n : Nat} {sp : Sp} {st : Stmt} {f0 : Addr} {fd0 : FuncData} (D : Def P w K mg base x ps k sp) (F : At K mg x qual st ps f0 fd0) (g : {α : Type} → List α → List α → List α)
    (rel : ∀ {vs zs : List V} {us ws : List Value}, Vals vs us → Vals zs ws → Vals (g vs zs) (g us ws))
    (h : ∀ (kV doc pm : Value) (an : Option Addr) (cdv ct : Value) (us ws : List Value), us.length = n → ws.length = ks.length → bindArgs (PySem.W.fnOf x qual (defArgs st) (defBody st) (defScope st) .none kV doc pm an cdv ct) ⟨us, ks.zip ws⟩ = pure (ps.zip (g us ws))) :
    Kw P w K mg base x n ks k sp (fun vs zs => g vs zs) := by
  obtain ⟨f, fd, a, b, _, Fn, oc, od, osl, l⟩ := D.ex
  have e := F.mg.symm.trans a
  injection e with e
  injection e with e
  subst e
  obtain ⟨oc', od', dV, kV, doc, pm, an, cdv, ct, osl', ef, l', hcd, hD, _⟩ := F.fn.ex
  have e2 := l'.symm.trans l
  injection e2 with e2
  injection e2 with _ _ e2 _
  injection e2 with e2
  rcases hD with ⟨_, rfl⟩ | ⟨e, _⟩
  · have hkb : KBn K fd ps n ks (fun us ws => g us ws) (fun vs zs => g vs zs) := by
      rw [← e2, ef]
      exact ⟨fun s us ws _ l1 l2 => .of_eq (h kV doc pm an cdv ct us ws l1 l2), rel⟩
    exact ⟨f0, fd, ps, _, F.mg, b, hkb, Fn⟩
  · exact absurd rfl e
/-- a module's tuple -/
def Cst (K : PySem.W.Frag) (mg : Str → Option Value) (x : Str) (xs : List V) : Prop := ∃ p, mg x = some (.ref p) ∧ ∀ H, SqT K H p xs
end
def tCallK (n m : Nat) (sp : Sp) (gV : List V → List V → List V) (E : St → XK) (t tk : TA) : TE := fun σ H Q => t σ H fun vs H1 => tk σ H1 fun zs H2 => vs.length = n ∧ zs.length = m ∧ sp (gV vs zs) H2 Q (E σ)
section
variable {X : Cx} {k n : Nat} {ks : List Str} {sp : Sp} {x : Str} {p pos : Pos} {e : Expr} {es : List Expr} {kws : List Keyword} {t tk : TA} {W : WX} {gV : List V → List V → List V}
theorem run_K {pins : List (Addr × Obj)} {σ : St} {H : Hp} {s : Shared} {Q : VK} {us ws : List Value} {vs zs : List V} {f : Addr} {fd : FuncData} {ps : List Str} {g : List Value → List Value → List Value}
    (F : FnOk X.prog X.w X.K X.mg X.base (L2.CX X.prog X.w) k f fd ps sp) (hr : Room k X.A) (hb : KBn X.K fd ps n ks g gV) (tk : Takes X W)
    (I : Inv X pins σ H s) (r : Vals vs us) (rz : Vals zs ws) (l1 : vs.length = n) (l2 : zs.length = ks.length) (h : sp (gV vs zs) H Q (WE W σ)) : wpAny (model X.prog X.w) X.A (call (.ref f) us (ks.zip ws)) (EP X pins σ Q) X.xe s := by
  have b := hb.to s us ws I.kIn (r.length.symm.trans l1) (rz.length.symm.trans l2)
  refine wpAny_call (codeAny_mono (F.run X.A X.stack s H ⟨us, ks.zip ws⟩ (g us ws) (gV vs zs) Q (WE W σ) hr I.env0 b (hb.rel r rz) h) fun r s' hq => ?_)
  match r, hq with
  | .error e, hq => exact passAt tk σ pins H s e s' I hq
  | .ok (.ret u), hq => exact I.after hq
  | .ok .next, hq => cases hq
  | .ok .brk, hq => cases hq
  | .ok .cont, hq => cases hq
/-- f(e, .., k = v, ..) -/
theorem pe_fnK (D : Kw X.prog X.w X.K X.mg X.base x n ks k sp gV) (hr : Room k X.A) (tt : Takes X W) (ha : PA X (e :: es) t) (hkw : PK X kws tk) (hall : (backToKw pos (keywordEach kws X.env)).all (·.1.isSome) = true := by rfl)
    (hks : (backToKw pos (keywordEach kws X.env)).filterMap (·.1) = ks := by rfl) (hg : Gl X x := by rfl) (hdb : (x == ("__debug__" : Str)) = false := by decide) (he : starEach (e :: es) X.env = (false, eval e X.env) :: starEach es X.env := by rfl)
    (hpl : ((backTo pos (starEach (e :: es) X.env)).any (·.1) || (backToKw pos (keywordEach kws X.env)).any (·.1.isNone)) = false := by rfl) : PE X (.Call (.Name x p) (e :: es) kws pos) (tCallK n ks.length sp gV (WE W) t tk) := by
  obtain ⟨f, fd, ps, g, hm, hk, hb, F⟩ := D.ex
  refine ⟨fun pins s σ H Q I h => wpAny_Call_Name_kw (ld_glob I hg hm ?_ hdb)⟩
  refine PySem.W.callWith_KW (h₀ := X.base) I.ok.mod.kin hk hall (thn (ha.run pos pins s σ H _ I h) fun us s1 z => ?_) hpl he
  obtain ⟨vs, H1, I1, r, q⟩ := z
  refine thn (hkw.run pos pins s1 σ H1 _ I1 q) fun ws s2 z => ?_
  obtain ⟨zs, H2, I2, rz, l1, l2, q2⟩ := z
  refine ⟨I2.kIn, ?_⟩
  rw [hks]
  exact run_K F hr hb tt I2 r rz l1 l2 q2
theorem pe_fnK0 (D : Kw X.prog X.w X.K X.mg X.base x 0 ks k sp gV) (hr : Room k X.A) (tt : Takes X W) (hkw : PK X kws tk) (hall : (backToKw pos (keywordEach kws X.env)).all (·.1.isSome) = true := by rfl)
    (hks : (backToKw pos (keywordEach kws X.env)).filterMap (·.1) = ks := by rfl) (hg : Gl X x := by rfl) (hdb : (x == ("__debug__" : Str)) = false := by decide)
    (hpl : ((backTo pos (starEach [] X.env)).any (·.1) || (backToKw pos (keywordEach kws X.env)).any (·.1.isNone)) = false := by rfl) : PE X (.Call (.Name x p) [] kws pos) (tCallK 0 ks.length sp gV (WE W) tNil tk) := by
  obtain ⟨f, fd, ps, g, hm, hk, hb, F⟩ := D.ex
  refine ⟨fun pins s σ H Q I h => wpAny_Call_Name_kw (ld_glob I hg hm ?_ hdb)⟩
  refine PySem.W.callWith_KW0 (h₀ := X.base) I.ok.mod.kin hk hall ?_ hpl
  refine thn (hkw.run pos pins s σ H _ I h) fun ws s2 z => ?_
  obtain ⟨zs, H2, I2, rz, l1, l2, q2⟩ := z
  refine ⟨I2.kIn, ?_⟩
  rw [hks]
  exact run_K F hr hb tt I2 (.nil : Vals [] []) rz l1 l2 q2
/-- the tuple of the module's x -/
def tCst (K : PySem.W.Frag) (xs : List V) : TE := fun _ H Q => ∀ p, (∀ H, SqT K H p xs) → Q (.ref p) H
theorem pe_cst {xs : List V} (c : Cst X.K X.mg x xs) (hg : Gl X x := by rfl) (hd : (x == ("__debug__" : Str)) = false := by decide) : PE X (.Name x pos) (tCst X.K xs) := by
  obtain ⟨q, e, h⟩ := c
  exact ⟨fun pins s σ H Q I z => (pe_glob (v := .ref q) (pos := pos) hg e (show RelV (.ref q) (.ref q) from rfl) hd).run pins s σ H Q I (z q h)⟩
end
/-- an expression that gives a tuple of xs -/
structure PC (X : Cx) (b : Expr) (xs : List V) (g : Hp → (Hp → Prop) → Prop) : Prop where
  ev : PE X b (fun _ H Q => g H fun H' => ∀ p, SqT X.K H' p xs → Q (.ref p) H')
/-- x in a written tuple of plain items -/
def tInC (neg : Bool) (xs : List V) (g : Hp → (Hp → Prop) → Prop) (te : TE) : TE := fun σ H Q => te σ H fun v H1 => flatV v = true ∧ xs.all flatV = true ∧ g H1 fun H2 => Q (.bl (if neg then !inV v xs else inV v xs)) H2
/-- it leaves the heap as it is -/
def gC : Hp → (Hp → Prop) → Prop := fun H q => q H
def gN (xs : List V) : Hp → (Hp → Prop) → Prop := fun H q => ∀ p, H p = none → q (upd H p (.tup xs))
section
variable {X : Cx} {x : Str} {e b : Expr} {te : TE} {p pos : Pos} {xs : List V} {g : Hp → (Hp → Prop) → Prop}
theorem pc_cst (c : Cst X.K X.mg x xs) (hg : Gl X x := by rfl) (hd : (x == ("__debug__" : Str)) = false := by decide) : PC X (.Name x pos) xs gC :=
  ⟨PE.imp (pe_cst c hg hd) fun σ H Q h p hp => h p (hp H)⟩
theorem pc_cut {tl tu : TO} {l u : Option Expr} {lo hi : Option Int} {p1 : Pos} (c : Cst X.K X.mg x xs) (hl : PO X l tl) (hu : PO X u tu) (el : ∀ σ H Q, Q lo H → tl σ H Q) (eu : ∀ σ H Q, Q hi H → tu σ H Q)
    (hw : ¬ (HT.sIx xs.length 0 lo = 0 ∧ HT.sIx xs.length xs.length hi = xs.length) := by decide) (hg : Gl X x := by rfl) (hd : (x == ("__debug__" : Str)) = false := by decide) : PC X (.Subscript (.Name x p) (.Slice l u none p1) pos) (cutV xs lo hi) (gN (cutV xs lo hi)) :=
  ⟨PE.imp (pe_slice sl_tup (pe_cst c hg hd) hl hu) fun σ H Q h p hp => el σ H _ (eu σ H _ ⟨p, xs, rfl, hp H, hw, fun q hq => h q hq q (Or.inl (Or.inl upd_same))⟩)⟩
theorem pe_inC (he : PE X e te) (c : PC X b xs g) (gm : ∀ {H : Hp} {q r : Hp → Prop}, (∀ H, q H → r H) → g H q → g H r) (hm : behindInMarks .In b = false := by rfl) : PE X (.Compare e [.In] [b] pos) (tInC false xs g te) := by
  refine ⟨fun pins s σ H Q I h => wpAny_Compare1 (thn (he.run pins s σ H _ I h) fun v s1 z => ?_) hm⟩
  obtain ⟨x, H1, I1, r1, f1, f2, q⟩ := z
  refine thn (c.ev.run pins s1 σ H1 (fun y H2 => rIn X.K false x y H2 Q) I1 (gm (fun H2 q2 p hp => ⟨p, xs, rfl, Or.inr hp, f1, f2, q2⟩) q)) fun u s2 z => ?_
  obtain ⟨y, H2, I2, r2, q2⟩ := z
  exact op_in_seq pins s2 σ H2 x y v u Q I2 r1 r2 q2
theorem pe_ninC (he : PE X e te) (c : PC X b xs g) (gm : ∀ {H : Hp} {q r : Hp → Prop}, (∀ H, q H → r H) → g H q → g H r) (hm : behindInMarks .NotIn b = false := by rfl) : PE X (.Compare e [.NotIn] [b] pos) (tInC true xs g te) := by
  refine ⟨fun pins s σ H Q I h => wpAny_Compare1 (thn (he.run pins s σ H _ I h) fun v s1 z => ?_) hm⟩
  obtain ⟨x, H1, I1, r1, f1, f2, q⟩ := z
  refine thn (c.ev.run pins s1 σ H1 (fun y H2 => rIn X.K true x y H2 Q) I1 (gm (fun H2 q2 p hp => ⟨p, xs, rfl, Or.inr hp, f1, f2, q2⟩) q)) fun u s2 z => ?_
  obtain ⟨y, H2, I2, r2, q2⟩ := z
  exact op_notIn_seq pins s2 σ H2 x y v u Q I2 r1 r2 q2
theorem pt_inC (he : PE X e te) (c : PC X b xs g) (gm : ∀ {H : Hp} {q r : Hp → Prop}, (∀ H, q H → r H) → g H q → g H r) (hm : behindInMarks .In b = false := by rfl) : PT X (.Compare e [.In] [b] pos) (tTest (tInC false xs g te)) := by
  refine ⟨fun pins s σ H Q I h => wpAny_isTrue_Compare1 (thn (he.run pins s σ H _ I h) fun v s1 z => ?_) hm⟩
  obtain ⟨x, H1, I1, r1, f1, f2, q⟩ := z
  refine thn (c.ev.run pins s1 σ H1 (fun y H2 => rIn X.K false x y H2 fun z H3 => ∃ k, z = .bl k ∧ Q k H3) I1 (gm (fun H2 q2 p hp => ⟨p, xs, rfl, Or.inr hp, f1, f2, q2⟩) q)) fun u s2 z => ?_
  obtain ⟨y, H2, I2, r2, q2⟩ := z
  refine thn (op_in_seq pins s2 σ H2 x y v u _ I2 r1 r2 q2) fun c s3 z => ?_
  obtain ⟨z, H3, I3, r3, k, e, q3⟩ := z
  subst e
  cases r3
  exact wpAny_truthy_bool ⟨H3, I3, q3⟩
theorem pt_ninC (he : PE X e te) (c : PC X b xs g) (gm : ∀ {H : Hp} {q r : Hp → Prop}, (∀ H, q H → r H) → g H q → g H r) (hm : behindInMarks .NotIn b = false := by rfl) : PT X (.Compare e [.NotIn] [b] pos) (tTest (tInC true xs g te)) := by
  refine ⟨fun pins s σ H Q I h => wpAny_isTrue_Compare1 (thn (he.run pins s σ H _ I h) fun v s1 z => ?_) hm⟩
  obtain ⟨x, H1, I1, r1, f1, f2, q⟩ := z
  refine thn (c.ev.run pins s1 σ H1 (fun y H2 => rIn X.K true x y H2 fun z H3 => ∃ k, z = .bl k ∧ Q k H3) I1 (gm (fun H2 q2 p hp => ⟨p, xs, rfl, Or.inr hp, f1, f2, q2⟩) q)) fun u s2 z => ?_
  obtain ⟨y, H2, I2, r2, q2⟩ := z
  refine thn (op_notIn_seq pins s2 σ H2 x y v u _ I2 r1 r2 q2) fun c s3 z => ?_
  obtain ⟨z, H3, I3, r3, k, e, q3⟩ := z
  subst e
  cases r3
  exact wpAny_truthy_bool ⟨H3, I3, q3⟩
theorem gC_m {H : Hp} {q r : Hp → Prop} (h : ∀ H, q H → r H) (k : gC H q) : gC H r := h H k
theorem gN_m {H : Hp} {q r : Hp → Prop} (h : ∀ H, q H → r H) (k : gN xs H q) : gN xs H r := fun p hp => h _ (k p hp)
end
end Rm
/-! Rm, part I: values and their data. -/
namespace Rm
open PySem PySem.Spec L2
open PyProof.Rows hiding St
def tyD : PyData → String
  | .none => "NoneType"
  | .bool _ => "bool"
  | .int _ => "int"
  | .str _ => "str"
  | .list _ => "list"
  | .tuple _ => "tuple"
  | .dict _ => "dict"
theorem tyN_dr {H : Hp} {v : V} {d : PyData} (h : Dr H v d) : tyN v H = some (tyD d) := by
  cases h with
  | lst e _ => simp only [tyN, e, tyD]
  | tup e _ => simp only [tyN, e, tyD]
  | dct e _ => simp only [tyN, e, tyD]
  | _ => rfl
theorem tyN_non {H : Hp} : tyN .non H = some (tyD .none) := rfl
theorem tyN_bl {H : Hp} {b : Bool} : tyN (.bl b) H = some (tyD (.bool b)) := rfl
theorem tyN_int {H : Hp} {i : Int} : tyN (.int i) H = some (tyD (.int i)) := rfl
theorem tyN_str {H : Hp} {i : Str} : tyN (.str i) H = some (tyD (.str i)) := rfl
theorem tyN_lst {H : Hp} {a : Addr} {xs : List V} (e : rdo H a = some (.lst xs)) : tyN (.ref a) H = some (tyD (.list [])) := by simp only [tyN, e, tyD]
theorem tyN_tup {H : Hp} {a : Addr} {xs : List V} (e : rdo H a = some (.tup xs)) : tyN (.ref a) H = some (tyD (.tuple [])) := by simp only [tyN, e, tyD]
theorem tyN_dK {H : Hp} {a : Addr} {xs : List (Key × V)} (e : rdo H a = some (.dK xs)) : tyN (.ref a) H = some (tyD (.dict [])) := by simp only [tyN, e, tyD]
theorem truN_non {H : Hp} : truN .non H = some false := rfl
theorem truN_bl {H : Hp} {b : Bool} : truN (.bl b) H = some b := rfl
theorem truN_int {H : Hp} {i : Int} : truN (.int i) H = some (i != 0) := rfl
theorem ok_str : ("str" ∈ okCls) = True := eq_true (by decide)
theorem ok_int : ("int" ∈ okCls) = True := eq_true (by decide)
theorem ok_bool : ("bool" ∈ okCls) = True := eq_true (by decide)
theorem ok_tuple : ("tuple" ∈ okCls) = True := eq_true (by decide)
theorem ok_list : ("list" ∈ okCls) = True := eq_true (by decide)
theorem ok_dict : ("dict" ∈ okCls) = True := eq_true (by decide)
def isS : PyData → Bool
  | .str _ => true
  | _ => false
def isT : PyData → Bool
  | .tuple _ => true
  | _ => false
def isL' : PyData → Bool
  | .list _ => true
  | _ => false
def isB : PyData → Bool
  | .bool _ => true
  | _ => false
def isI : PyData → Bool
  | .int _ => true
  | _ => false
def isIB : PyData → Bool
  | .int _ => true
  | .bool _ => true
  | _ => false
def isD : PyData → Bool
  | .dict _ => true
  | _ => false
theorem scal_nn : scal .non .non = true := rfl
theorem scal_nb {y : Bool} : scal .non (.bl y) = true := rfl
theorem scal_ni {y : Int} : scal .non (.int y) = true := rfl
theorem scal_ns {y : Str} : scal .non (.str y) = true := rfl
theorem scal_nr {y : Addr} : scal .non (.ref y) = false := rfl
theorem scal_bn {x : Bool} : scal (.bl x) .non = true := rfl
theorem scal_bb {x : Bool} {y : Bool} : scal (.bl x) (.bl y) = true := rfl
theorem scal_bs {x : Bool} {y : Str} : scal (.bl x) (.str y) = true := rfl
theorem scal_br {x : Bool} {y : Addr} : scal (.bl x) (.ref y) = false := rfl
theorem scal_in {x : Int} : scal (.int x) .non = true := rfl
theorem scal_ii {x : Int} {y : Int} : scal (.int x) (.int y) = true := rfl
theorem scal_is {x : Int} {y : Str} : scal (.int x) (.str y) = true := rfl
theorem scal_ir {x : Int} {y : Addr} : scal (.int x) (.ref y) = false := rfl
theorem scal_sn {x : Str} : scal (.str x) .non = true := rfl
theorem scal_sb {x : Str} {y : Bool} : scal (.str x) (.bl y) = true := rfl
theorem scal_si {x : Str} {y : Int} : scal (.str x) (.int y) = true := rfl
theorem scal_ss {x : Str} {y : Str} : scal (.str x) (.str y) = true := rfl
theorem scal_sr {x : Str} {y : Addr} : scal (.str x) (.ref y) = false := rfl
theorem scal_rn {x : Addr} : scal (.ref x) .non = false := rfl
theorem scal_rb {x : Addr} {y : Bool} : scal (.ref x) (.bl y) = false := rfl
theorem scal_ri {x : Addr} {y : Int} : scal (.ref x) (.int y) = false := rfl
theorem scal_rs {x : Addr} {y : Str} : scal (.ref x) (.str y) = false := rfl
theorem scal_rr {x : Addr} {y : Addr} : scal (.ref x) (.ref y) = false := rfl
theorem not_isT {d : PyData} (h : ¬ isT d = true) : isT d = false := by rwa [Bool.not_eq_true] at h
theorem not_isT' {b : Bool} (h : ¬ b = true) : b = false := by rwa [Bool.not_eq_true] at h
theorem sub_str (d : PyData) : subN (tyD d) "str" = isS d := by cases d <;> rfl
theorem sub_tup (d : PyData) : subN (tyD d) "tuple" = isT d := by cases d <;> rfl
theorem sub_lst (d : PyData) : subN (tyD d) "list" = isL' d := by cases d <;> rfl
theorem sub_bool (d : PyData) : subN (tyD d) "bool" = isB d := by cases d <;> rfl
theorem sub_int (d : PyData) : subN (tyD d) "int" = isIB d := by cases d <;> rfl
theorem sub_dict (d : PyData) : subN (tyD d) "dict" = isD d := by cases d <;> rfl
theorem kisS_none : isS PyData.none = false := rfl
theorem kisS_bool {x : Bool} : isS (PyData.bool x) = false := rfl
theorem kisS_int {x : Int} : isS (PyData.int x) = false := rfl
theorem kisS_str {x : Str} : isS (PyData.str x) = true := rfl
theorem kisS_list {x : List PyData} : isS (PyData.list x) = false := rfl
theorem kisS_tuple {x : List PyData} : isS (PyData.tuple x) = false := rfl
theorem kisS_dict {x : List (PyData × PyData)} : isS (PyData.dict x) = false := rfl
theorem kisT_none : isT PyData.none = false := rfl
theorem kisT_bool {x : Bool} : isT (PyData.bool x) = false := rfl
theorem kisT_int {x : Int} : isT (PyData.int x) = false := rfl
theorem kisT_str {x : Str} : isT (PyData.str x) = false := rfl
theorem kisT_list {x : List PyData} : isT (PyData.list x) = false := rfl
theorem kisT_tuple {x : List PyData} : isT (PyData.tuple x) = true := rfl
theorem kisT_dict {x : List (PyData × PyData)} : isT (PyData.dict x) = false := rfl
theorem kisL_none : isL' PyData.none = false := rfl
theorem kisL_bool {x : Bool} : isL' (PyData.bool x) = false := rfl
theorem kisL_int {x : Int} : isL' (PyData.int x) = false := rfl
theorem kisL_str {x : Str} : isL' (PyData.str x) = false := rfl
theorem kisL_list {x : List PyData} : isL' (PyData.list x) = true := rfl
theorem kisL_tuple {x : List PyData} : isL' (PyData.tuple x) = false := rfl
theorem kisL_dict {x : List (PyData × PyData)} : isL' (PyData.dict x) = false := rfl
theorem kisB_none : isB PyData.none = false := rfl
theorem kisB_bool {x : Bool} : isB (PyData.bool x) = true := rfl
theorem kisB_int {x : Int} : isB (PyData.int x) = false := rfl
theorem kisB_str {x : Str} : isB (PyData.str x) = false := rfl
theorem kisB_list {x : List PyData} : isB (PyData.list x) = false := rfl
theorem kisB_tuple {x : List PyData} : isB (PyData.tuple x) = false := rfl
theorem kisB_dict {x : List (PyData × PyData)} : isB (PyData.dict x) = false := rfl
theorem kisI_none : isI PyData.none = false := rfl
theorem kisI_bool {x : Bool} : isI (PyData.bool x) = false := rfl
theorem kisI_int {x : Int} : isI (PyData.int x) = true := rfl
theorem kisI_str {x : Str} : isI (PyData.str x) = false := rfl
theorem kisI_list {x : List PyData} : isI (PyData.list x) = false := rfl
theorem kisI_tuple {x : List PyData} : isI (PyData.tuple x) = false := rfl
theorem kisI_dict {x : List (PyData × PyData)} : isI (PyData.dict x) = false := rfl
theorem kisIB_none : isIB PyData.none = false := rfl
theorem kisIB_bool {x : Bool} : isIB (PyData.bool x) = true := rfl
theorem kisIB_int {x : Int} : isIB (PyData.int x) = true := rfl
theorem kisIB_str {x : Str} : isIB (PyData.str x) = false := rfl
theorem kisIB_list {x : List PyData} : isIB (PyData.list x) = false := rfl
theorem kisIB_tuple {x : List PyData} : isIB (PyData.tuple x) = false := rfl
theorem kisIB_dict {x : List (PyData × PyData)} : isIB (PyData.dict x) = false := rfl
theorem kisD_none : isD PyData.none = false := rfl
theorem kisD_bool {x : Bool} : isD (PyData.bool x) = false := rfl
theorem kisD_int {x : Int} : isD (PyData.int x) = false := rfl
theorem kisD_str {x : Str} : isD (PyData.str x) = false := rfl
theorem kisD_list {x : List PyData} : isD (PyData.list x) = false := rfl
theorem kisD_tuple {x : List PyData} : isD (PyData.tuple x) = false := rfl
theorem kisD_dict {x : List (PyData × PyData)} : isD (PyData.dict x) = true := rfl
theorem of_isS {d : PyData} (h : isS d = true) : ∃ s, d = .str s := by cases d <;> first | exact ⟨_, rfl⟩ | cases h
theorem of_isT {d : PyData} (h : isT d = true) : ∃ s, d = .tuple s := by cases d <;> first | exact ⟨_, rfl⟩ | cases h
theorem of_isI {d : PyData} (h : isI d = true) : ∃ s, d = .int s := by cases d <;> first | exact ⟨_, rfl⟩ | cases h
theorem isIB_not {d : PyData} : (isIB d && !isB d) = isI d := by cases d <;> rfl
theorem dr_str {H : Hp} {v : V} {s : Str} (h : Dr H v (.str s)) : v = .str s := by cases h; rfl
theorem dr_int {H : Hp} {v : V} {s : Int} (h : Dr H v (.int s)) : v = .int s := by cases h; rfl
/-- d == z, a text -/
def eqS (d : PyData) (z : Str) : Bool := match d with
  | .str y => decide (y = z)
  | _ => false
theorem isCol_dr {H : Hp} {a : Addr} {d : PyData} (h : Dr H (.ref a) d) : isCol (rdo H a) = true := by
  cases h with
  | lst e _ => rw [e]; rfl
  | tup e _ => rw [e]; rfl
  | dct e _ => rw [e]; rfl
theorem isCol_l {xs : List V} : isCol (some (.lst xs)) = true := rfl
theorem isCol_t {xs : List V} : isCol (some (.tup xs)) = true := rfl
theorem isCol_d {xs : List (Key × V)} : isCol (some (.dK xs)) = true := rfl
theorem isSeq_l {xs : List V} : isSeq (some (.lst xs)) = true := rfl
theorem isSeq_t {xs : List V} : isSeq (some (.tup xs)) = true := rfl
theorem eqR_rr {H : Hp} {a b : Addr} : eqR H (.ref a) (.ref b) = (match rdo H a, rdo H b with
    | some (.tup xs), some (.tup []) => some xs.isEmpty
    | some (.lst xs), some (.lst []) => some xs.isEmpty
    | some (.lst _), some (.tup _) => some false
    | some (.tup _), some (.lst _) => some false
    | _, _ => none) := rfl
theorem eqR_rs {H : Hp} {a : Addr} {z : Str} : eqR H (.ref a) (.str z) = if isCol (rdo H a) = true then some false else none := rfl
theorem eqR_ri {H : Hp} {a : Addr} {z : Int} : eqR H (.ref a) (.int z) = if isSeq (rdo H a) = true then some false else none := rfl
theorem eqR_rb {H : Hp} {a : Addr} {z : Bool} : eqR H (.ref a) (.bl z) = if isSeq (rdo H a) = true then some false else none := rfl
theorem eqR_rn {H : Hp} {a : Addr} : eqR H (.ref a) .non = if isSeq (rdo H a) = true then some false else none := rfl
theorem eqR_sr {H : Hp} {a : Addr} {z : Str} : eqR H (.str z) (.ref a) = if isSeq (rdo H a) = true then some false else none := rfl
theorem eqR_ir {H : Hp} {a : Addr} {z : Int} : eqR H (.int z) (.ref a) = if isSeq (rdo H a) = true then some false else none := rfl
theorem eqR_br {H : Hp} {a : Addr} {z : Bool} : eqR H (.bl z) (.ref a) = if isSeq (rdo H a) = true then some false else none := rfl
theorem eqR_nr {H : Hp} {a : Addr} : eqR H .non (.ref a) = if isSeq (rdo H a) = true then some false else none := rfl
theorem eq_strR {H : Hp} {v : V} {d : PyData} {z : Str} {Q : VK} (h : Dr H v d) (q : Q (.bl (eqS d z)) H) : rEqU v (.str z) H Q := by
  unfold rEqU
  cases d with
  | none => cases h; exact q
  | bool b => cases h; exact q
  | int i => cases h; exact q
  | str s =>
    cases h
    simp only [scal, if_true]
    have e : decide (V.str s = V.str z) = eqS (.str s) z := by
      simp only [eqS, V.str.injEq]
    rw [e]
    exact q
  | list ds => cases h with | lst e A => simp only [scal, eqR_rs, e, isCol_l]; exact q
  | tuple ds => cases h with | tup e A => simp only [scal, eqR_rs, e, isCol_t]; exact q
  | dict ds => cases h with | dct e A => simp only [scal, eqR_rs, e, isCol_d]; exact q
theorem inV_str (ws : List Str) (s : Str) : inV (.str s) (ws.map V.str) = ws.any fun w => decide (w = s) := by
  induction ws with
  | nil => rfl
  | cons w r ih =>
    have e : eqV (.str w) (.str s) = decide (w = s) := rfl
    simp only [inV, List.map_cons, List.any_cons, e] at ih ⊢
    rw [ih]
theorem flat_str (ws : List Str) : (ws.map V.str).all flatV = true := by
  induction ws with
  | nil => rfl
  | cons w r ih => simp only [List.map_cons, List.all_cons, ih]; rfl
def inS (ws : List Str) (d : PyData) : Bool := match d with
  | .str s => ws.any fun w => decide (w = s)
  | _ => false
theorem DrA.set {H : Hp} {w : V} {e : PyData} (he : Dr H w e) : ∀ {vs : List V} {ds : List PyData}, DrA H vs ds → ∀ i : Nat, DrA H (vs.set i w) (ds.set i e)
  | [], _, a, i => by cases a; exact .nil
  | v :: vs, _, a, i => by
    cases a with
    | cons h1 a =>
      cases i with
      | zero => exact .cons he a
      | succ i => exact .cons h1 (DrA.set he a i)
theorem DrA.erase {H : Hp} : ∀ {vs : List V} {ds : List PyData}, DrA H vs ds → ∀ i : Nat, DrA H (vs.eraseIdx i) (ds.eraseIdx i)
  | [], _, a, i => by cases a; exact .nil
  | v :: vs, _, a, i => by
    cases a with
    | cons h1 a =>
      cases i with
      | zero => exact a
      | succ i => exact .cons h1 (DrA.erase a i)
theorem DrA.rev {H : Hp} : ∀ {vs : List V} {ds : List PyData}, DrA H vs ds → DrA H vs.reverse ds.reverse
  | [], _, a => by cases a; exact .nil
  | v :: vs, _, a => by
    cases a with
    | cons h1 a =>
      rw [List.reverse_cons, List.reverse_cons]
      exact (DrA.rev a).append (.cons h1 .nil)
theorem merge2 {k1 k2 : Key} {v1 v2 : V} (h : ¬ k1 = k2) : mergeK [] [(k1, v1), (k2, v2)] = [(k1, v1), (k2, v2)] := by
  simp [mergeK, putK, h]
theorem DrA.ints2 {H : Hp} : ∀ {ws : List Int} {xs : List V}, DrA H xs (ws.map PyData.int) → xs = ws.map V.int
  | [], _, a => by cases a; rfl
  | w :: ws, _, a => by
    cases a with
    | cons h a =>
      cases h
      rw [DrA.ints2 a]
      rfl
theorem inV_int (ws : List Int) (s : Int) : inV (.int s) (ws.map V.int) = ws.any fun w => decide (w = s) := by
  induction ws with
  | nil => rfl
  | cons w r ih =>
    have e : eqV (.int w) (.int s) = decide (w = s) := rfl
    simp only [inV, List.map_cons, List.any_cons, e] at ih ⊢
    rw [ih]
theorem flat_int (ws : List Int) : (ws.map V.int).all flatV = true := by
  induction ws with
  | nil => rfl
  | cons w r ih => simp only [List.map_cons, List.all_cons, ih]; rfl
/-- a new tuple's cell -/
theorem tup_new {H H' : Hp} {a : Addr} {xs : List V} (h : rdo (newp H H') a = some (.tup xs)) : H' a = some (.tup xs) := by
  rcases rdo_rd h with e | ⟨o, e⟩
  · exact (newp_some e).2
  · have := (newp_some' e).2.2
    cases this
theorem DrA.strs {H : Hp} : ∀ {ws : List Str} {xs : List V}, DrA H xs (ws.map PyData.str) → xs = ws.map V.str
  | [], _, a => by cases a; rfl
  | w :: ws, _, a => by
    cases a with
    | cons h a =>
      cases h
      rw [DrA.strs a]
      rfl
/-- the tape goes on, all else stands -/
structure Tp (t : Addr) (H H' : Hp) : Prop where
  a : TapeAt H t
  b : TapeAt H' t
  x : ∀ b o, b ≠ t → H b = some o → H' b = some o
section
variable {t : Addr} {H H0 H1 H2 : Hp}
theorem tape_some (h : TapeAt H t) : H t ≠ none := by
  obtain ⟨d, m, e, _⟩ := h
  rw [e]
  exact fun z => by cases z
theorem TapeAt.ext (h : TapeAt H t) (e : Ext H H1) : TapeAt H1 t := by
  obtain ⟨d, m, q, r⟩ := h
  exact ⟨d, m, e _ _ q, r⟩
theorem Tp.refl (h : TapeAt H t) : Tp t H H := ⟨h, h, fun _ _ _ z => z⟩
theorem Tp.of_fr (h : TapeAt H t) (h' : TapeAt H1 t) (fr : ∀ b, b ≠ t → H1 b = H b) : Tp t H H1 := ⟨h, h', fun b o n z => by rw [fr b n]; exact z⟩
theorem Tp.of_ext (h : TapeAt H t) (e : Ext H H1) : Tp t H H1 := ⟨h, h.ext e, fun b o _ z => e b o z⟩
theorem Tp.trans (p : Tp t H H1) (q : Tp t H1 H2) : Tp t H H2 := ⟨p.a, q.b, fun b o n z => q.x b o n (p.x b o n z)⟩
theorem Tp.none {b : Addr} (p : Tp t H H1) (h : H1 b = none) : H b = none := by
  cases q : H b with
  | none => rfl
  | some o =>
    by_cases n : b = t
    · subst n
      exact absurd h (tape_some p.b)
    · rw [p.x b o n q] at h
      cases h
theorem Tp.left (p : Tp t H0 H) (q : Tp t H H1) : Ext (newp H0 H) (newp H0 H1) := fun a o z => by
  obtain ⟨h1, h2, n⟩ := newp_some' z
  exact newp_of h1 (q.x a o (fun e => tape_some p.a (e ▸ h1)) h2) n
theorem Tp.right (p : Tp t H0 H) : Ext (newp H H1) (newp H0 H1) := fun a o z => by
  obtain ⟨h1, h2, n⟩ := newp_some' z
  exact newp_of (p.none h1) h2 n
theorem hid_mono {l : Addr} (h : Ext H H1) : Ext (hid l H) (hid l H1) := Ext.hid fun b o _ z => h b o z
theorem newp_hid1 {l : Addr} {o : HO} (h : H l = some o) : Ext (newp H H1) (hid l (newp H H1)) := fun a u z => by
  have := (newp_some z).1
  rw [hid_ne (fun e => by rw [e, h] at this; cases this)]
  exact z
theorem TapeAt.upd {p : Addr} {o : HO} (h : TapeAt H t) (n : p ≠ t) : TapeAt (upd H p o) t := by
  obtain ⟨d, m, q, r⟩ := h
  exact ⟨d, m, by rw [upd_ne (Ne.symm n)]; exact q, r⟩
end
theorem ixN_of {n : Nat} {i : Int} (h0 : 0 ≤ i) (h1 : i < n) : ixN n i = some i.toNat := by
  unfold ixN
  first
    | rw [if_pos (by omega), if_pos (by omega)]
    | rw [if_pos (by omega)]
    | (rw [if_neg (by omega)]; rfl)
    | (split <;> first | (congr 1; omega) | omega)
theorem sqI_of {n : Nat} {i : Int} (h0 : 0 ≤ i) (h1 : i < n) : seqIndex? i n = some i.toNat := seqIndex_of h0 h1
theorem mem_set {α : Type} {P : α → Prop} {xs : List α} {j : Nat} {v : α} (h : ∀ x ∈ xs, P x) (hv : P v) : ∀ x ∈ xs.set j v, P x := fun x hx => by
  rcases List.mem_or_eq_of_mem_set hx with z | z
  · exact h x z
  · exact z ▸ hv
theorem mem_app {α : Type} {P : α → Prop} {xs : List α} {v : α} (h : ∀ x ∈ xs, P x) (hv : P v) : ∀ x ∈ xs ++ [v], P x := fun x hx => by
  rcases List.mem_append.mp hx with z | z
  · exact h x z
  · rw [List.mem_singleton.mp z]
    exact hv
/-- plain letters -/
def asc (s : Str) : Bool := s.cps.toList.all fun c => decide (c < 128)
theorem asc_iff {s : Str} : asc s = true ↔ ∀ c ∈ s.cps.toList, c < 128 := by
  simp only [asc, List.all_eq_true, decide_eq_true_eq]
theorem fine_asc {n k : Nat} {x : Str} (hx : asc x = true) (h : 10 * x.length + 2 ≤ n) : Fine n k (.str x) :=
  fine_str (fun c hc => Nat.lt_trans (asc_iff.mp hx c hc) (by decide)) h
theorem cps_append (a b : Str) : (a ++ b).cps = a.cps ++ b.cps := rfl
theorem asc_append {a b : Str} (h : asc a = true) (k : asc b = true) : asc (a ++ b) = true := by
  rw [asc_iff] at h k ⊢
  intro c hc
  rw [cps_append, Array.toList_append, List.mem_append] at hc
  exact hc.elim (h c) (k c)
theorem asc_cut {z : Str} {lo hi : Option Int} (h : asc z = true) : asc (cutS z lo hi) = true := by
  rw [asc_iff] at h ⊢
  intro c hc
  refine h c ?_
  unfold cutS at hc
  exact List.mem_of_mem_drop (List.mem_of_mem_take (by simpa using hc))
theorem cut_len (z : Str) (lo hi : Option Int) : (cutS z lo hi).length = min (HT.sIx z.length z.length hi - HT.sIx z.length 0 lo) (z.length - HT.sIx z.length 0 lo) := by
  unfold cutS
  show (List.toArray _).size = _
  rw [List.size_toArray, List.length_take, List.length_drop]
  show min _ (z.cps.toList.length - _) = _
  rw [Array.length_toList]
  rfl
theorem cut_le (z : Str) (lo hi : Option Int) : (cutS z lo hi).length ≤ z.length := by
  rw [cut_len]
  omega
theorem upper_asc : ∀ c : Nat, c < 128 → (Txt.upper ⟨#[c]⟩).length ≤ 1 ∧ asc (Txt.upper ⟨#[c]⟩) = true := by decide +kernel
end Rm
/-! Rm, part J: the readings of part C, case by case (printed by mkeq.py). -/
namespace Rm
open PySem PySem.Spec L2
open PyProof.Rows hiding St
theorem rAdd_1 {i : Int} {j : Int} {H : Hp} {Q : VK} : rAdd (.int i) (.int j) H Q = (Q (.int (i + j)) H) := by first | rfl | (cases x <;> rfl)
theorem rAdd_2 {i : Int} {k : Bool} {H : Hp} {Q : VK} : rAdd (.int i) (.bl k) H Q = (Q (.int (i + b2i k)) H) := by first | rfl | (cases x <;> rfl)
theorem rAdd_3 {i : Str} {j : Str} {H : Hp} {Q : VK} : rAdd (.str i) (.str j) H Q = (i.length + j.length ≤ sizeLine ∧ Q (.str (i ++ j)) H) := by first | rfl | (cases x <;> rfl)
theorem rAdd_4 {a : Addr} {b : Addr} {H : Hp} {Q : VK} : rAdd (.ref a) (.ref b) H Q = ((match H a, H b with
    | some (.lst xs), some (.lst ys) => xs.length + ys.length ≤ sizeLine ∧ ∀ p, H p = none → Q (.ref p) (upd H p (.lst (xs ++ ys)))
    | some (.tup xs), some (.tup ys) => xs.length + ys.length ≤ sizeLine ∧ (xs = [] → Q (.ref b) H) ∧ (xs ≠ [] → ys = [] → Q (.ref a) H) ∧ (xs ≠ [] → ys ≠ [] → ∀ p, H p = none → Q (.ref p) (upd H p (.tup (xs ++ ys))))
    | _, _ => False)) := by first | rfl | (cases x <;> rfl)
theorem rSub_1 {i : Int} {j : Int} {H : Hp} {Q : VK} : rSub (.int i) (.int j) H Q = (Q (.int (i - j)) H) := by first | rfl | (cases x <;> rfl)
theorem rMul_1 {i : Int} {j : Int} {H : Hp} {Q : VK} : rMul (.int i) (.int j) H Q = (IntMulOk i j ∧ Q (.int (i * j)) H) := by first | rfl | (cases x <;> rfl)
theorem rMul_2 {z : Str} {k : Int} {H : Hp} {Q : VK} : rMul (.str z) (.int k) H Q = ((k = 0 ∨ k = 1) ∧ Q (.str (if k = 1 then z else Str.empty)) H) := by first | rfl | (cases x <;> rfl)
theorem rMul_3 {l : Addr} {k : Int} {H : Hp} {Q : VK} : rMul (.ref l) (.int k) H Q = ((match H l with
    | some (.lst xs) => (-(2 ^ 63) ≤ k ∧ k < 2 ^ 63 ∧ xs.length * k.toNat ≤ sizeLine) ∧ ∀ p, H p = none → Q (.ref p) (upd H p (.lst (List.replicate k.toNat xs).flatten))
    | _ => False)) := by first | rfl | (cases x <;> rfl)
theorem rDiv_1 {i : Int} {j : Int} {H : Hp} {Q : VK} : rDiv (.int i) (.int j) H Q = ((0 < j ∧ j.natAbs < 1073741824) ∧ Q (.int (i / j)) H) := by first | rfl | (cases x <;> rfl)
theorem rMod_1 {i : Int} {j : Int} {H : Hp} {Q : VK} : rMod (.int i) (.int j) H Q = (0 < j ∧ Q (.int (i % j)) H) := by first | rfl | (cases x <;> rfl)
theorem rPow_1 {i : Int} {j : Int} {H : Hp} {Q : VK} : rPow (.int i) (.int j) H Q = ((0 ≤ j ∧ (Builtin.Int.intBits i : Int) * j ≤ 2 ^ 27) ∧ Q (.int (i ^ j.toNat)) H) := by first | rfl | (cases x <;> rfl)
theorem rNeg_1 {i : Int} {H : Hp} {Q : VK} : rNeg (.int i) H Q = (Q (.int (-i)) H) := by first | rfl | (cases x <;> rfl)
theorem rLt_1 {i : Int} {j : Int} {H : Hp} {Q : VK} : rLt (.int i) (.int j) H Q = (Q (.bl (decide (i < j))) H) := by first | rfl | (cases x <;> rfl)
theorem rLe_1 {i : Int} {j : Int} {H : Hp} {Q : VK} : rLe (.int i) (.int j) H Q = (Q (.bl (decide (i ≤ j))) H) := by first | rfl | (cases x <;> rfl)
theorem rLe_2 {i : Str} {j : Str} {H : Hp} {Q : VK} : rLe (.str i) (.str j) H Q = (Q (.bl (!decide (j.cps.toList < i.cps.toList))) H) := by first | rfl | (cases x <;> rfl)
theorem rGt_1 {i : Int} {j : Int} {H : Hp} {Q : VK} : rGt (.int i) (.int j) H Q = (Q (.bl (decide (j < i))) H) := by first | rfl | (cases x <;> rfl)
theorem rGe_1 {i : Int} {j : Int} {H : Hp} {Q : VK} : rGe (.int i) (.int j) H Q = (Q (.bl (decide (j ≤ i))) H) := by first | rfl | (cases x <;> rfl)
theorem rIs_1 {a : Bool} {b : Bool} {H : Hp} {Q : VK} : rIs (.bl a) (.bl b) H Q = (Q (.bl (decide (a = b))) H) := by first | rfl | (cases x <;> rfl)
theorem rIs_2 {x : V} {H : Hp} {Q : VK} : rIs x (.non) H Q = (Q (.bl (decide (x = .non))) H) := by first | rfl | (cases x <;> rfl)
theorem rIsNot_1 {a : Bool} {b : Bool} {H : Hp} {Q : VK} : rIsNot (.bl a) (.bl b) H Q = (Q (.bl (!decide (a = b))) H) := by first | rfl | (cases x <;> rfl)
theorem rIsNot_2 {x : V} {H : Hp} {Q : VK} : rIsNot x (.non) H Q = (Q (.bl (!decide (x = .non))) H) := by first | rfl | (cases x <;> rfl)
theorem rMem_1 (neg : Bool) {a : Addr} {x : V} {H : Hp} {Q : VK} : rMem neg x (.ref a) H Q = ((match rdo H a with
    | some (.lst ys) => (flatV x = true ∧ ys.all flatV = true) ∧ Q (.bl (if neg then !inV x ys else inV x ys)) H
    | some (.tup ys) => (flatV x = true ∧ ys.all flatV = true) ∧ Q (.bl (if neg then !inV x ys else inV x ys)) H
    | some (.dK kvs) => (match keyOf x with
      | some k => Q (.bl (if neg then !(valV kvs k).isSome else (valV kvs k).isSome)) H
      | none => False)
    | _ => False)) := by first | rfl | (cases x <;> rfl)
theorem rItem_1 {a : Addr} {y : V} {H : Hp} {Q : VK} : rItem (.ref a) y H Q = ((match rdo H a with
    | some (.lst xs) => (match y with
      | .int i => (match atI xs i with
        | some v => Q v H
        | none => False)
      | _ => False)
    | some (.tup xs) => (match y with
      | .int i => (match atI xs i with
        | some v => Q v H
        | none => False)
      | _ => False)
    | some (.dK kvs) => (match keyOf y with
      | some k => (match valV kvs k with
        | some v => Q v H
        | none => False)
      | none => False)
    | _ => False)) := by first | rfl | (cases x <;> rfl)
theorem rItem_2 {z : Str} {y : V} {H : Hp} {Q : VK} : rItem (.str z) y H Q = ((match y with
    | .int i => z.length ≤ sizeLine ∧ (match atI z.cps.toList i with
      | some c => Q (.str ⟨#[c]⟩) H
      | none => False)
    | _ => False)) := by first | rfl | (cases x <;> rfl)
theorem rStore_1 {a : Addr} {i : V} {v : V} {H : Hp} {Q : Hp → Prop} : rStore (.ref a) i v H Q = ((match H a with
    | some (.lst xs) => (match i with
      | .int k => (match ixN xs.length k with
        | some j => Q (upd H a (.lst (xs.set j v)))
        | none => False)
      | _ => False)
    | some (.dK kvs) => (match keyOf i with
      | some k => kvs.length < sizeLine ∧ Q (upd H a (.dK (putK kvs k v)))
      | none => False)
    | _ => False)) := by first | rfl | (cases x <;> rfl)
theorem rLen_1 {a : Addr} {H : Hp} {Q : VK} : rLen [.ref a] H Q = ((match rdo H a with
    | some (.lst xs) => Q (.int xs.length) H
    | some (.tup xs) => Q (.int xs.length) H
    | some (.dK kvs) => (∀ o, H a ≠ some (.frz o (.dK kvs))) ∧ Q (.int kvs.length) H
    | _ => False)) := by first | rfl | (cases x <;> rfl)
theorem rLen_2 {z : Str} {H : Hp} {Q : VK} : rLen [.str z] H Q = (z.length ≤ sizeLine ∧ Q (.int z.length) H) := by first | rfl | (cases x <;> rfl)
theorem rInt_1 {i : Int} {H : Hp} {Q : VK} : rInt [.int i] H Q = (Q (.int i) H) := by first | rfl | (cases x <;> rfl)
theorem rInt_2 {k : Bool} {H : Hp} {Q : VK} : rInt [.bl k] H Q = (Q (.int (if k then 1 else 0)) H) := by first | rfl | (cases x <;> rfl)
theorem rMax_1 {i : Int} {j : Int} {H : Hp} {Q : VK} : rMax [.int i, .int j] H Q = (Q (.int (if j > i then j else i)) H) := by first | rfl | (cases x <;> rfl)
theorem rMin_1 {i : Int} {j : Int} {H : Hp} {Q : VK} : rMin [.int i, .int j] H Q = (Q (.int (if j < i then j else i)) H) := by first | rfl | (cases x <;> rfl)
theorem rList_1 {a : Addr} {H : Hp} {Q : VK} : rList [.ref a] H Q = ((match rdo H a with
    | some (.lst xs) => ∀ p, H p = none → Q (.ref p) (upd H p (.lst xs))
    | some (.tup xs) => ∀ p, H p = none → Q (.ref p) (upd H p (.lst xs))
    | _ => False)) := by first | rfl | (cases x <;> rfl)
theorem rTuple_1 {a : Addr} {H : Hp} {Q : VK} : rTuple [.ref a] H Q = ((match rdo H a with
    | some (.lst xs) => ∀ p, H p = none → Q (.ref p) (upd H p (.tup xs))
    | some (.tup _) => Q (.ref a) H
    | _ => False)) := by first | rfl | (cases x <;> rfl)
theorem rAbs_1 {i : Int} {H : Hp} {Q : VK} : rAbs [.int i] H Q = (Q (.int (if i < 0 then -i else i)) H) := by first | rfl | (cases x <;> rfl)
theorem rIsi_1 {x : V} {c : String} {H : Hp} {Q : VK} : rIsi [x, .ty c] H Q = (c ∈ okCls ∧ (match tyN x H with
    | some T => Q (.bl (subN T c)) H
    | none => False)) := by first | rfl | (cases x <;> rfl)
theorem rSlice_1 {z : Str} {lo : Option Int} {hi : Option Int} {H : Hp} {Q : VK} : rSlice (.str z) lo hi H Q = (z.length ≤ sizeLine ∧ Q (.str (cutS z lo hi)) H) := by first | rfl | (cases x <;> rfl)
theorem rSlice_2 {a : Addr} {lo : Option Int} {hi : Option Int} {H : Hp} {Q : VK} : rSlice (.ref a) lo hi H Q = ((match rdo H a with
    | some (.lst xs) => ∀ p, H p = none → Q (.ref p) (upd H p (.lst (cutV xs lo hi)))
    | some (.tup xs) => (HT.sIx xs.length 0 lo = 0 ∧ HT.sIx xs.length xs.length hi = xs.length → Q (.ref a) H) ∧ (¬ (HT.sIx xs.length 0 lo = 0 ∧ HT.sIx xs.length xs.length hi = xs.length) → ∀ p, H p = none → Q (.ref p) (upd H p (.tup (cutV xs lo hi))))
    | _ => False)) := by first | rfl | (cases x <;> rfl)
theorem mAppend_1 {l : Addr} {y : V} {H : Hp} {Q : VK} : mAppend (.ref l) [y] H Q = ((match H l with
    | some (.lst xs) => xs.length < sizeLine ∧ Q .non (upd H l (.lst (xs ++ [y])))
    | _ => False)) := by first | rfl | (cases x <;> rfl)
theorem mExtend_1 {l : Addr} {b : Addr} {H : Hp} {Q : VK} : mExtend (.ref l) [.ref b] H Q = ((match H l, H b with
    | some (.lst xs), some (.lst ys) => xs.length + ys.length ≤ sizeLine ∧ Q .non (upd H l (.lst (xs ++ ys)))
    | _, _ => False)) := by first | rfl | (cases x <;> rfl)
theorem mPop_1 {l : Addr} {H : Hp} {Q : VK} : mPop (.ref l) [] H Q = ((match H l with
    | some (.lst xs) => (match xs[xs.length - 1]? with
      | some y => Q y (upd H l (.lst xs.dropLast))
      | none => False)
    | _ => False)) := by first | rfl | (cases x <;> rfl)
theorem mPop_2 {l : Addr} {i : Int} {H : Hp} {Q : VK} : mPop (.ref l) [.int i] H Q = ((match H l with
    | some (.lst xs) => (-(2 ^ 63) ≤ i ∧ i < 2 ^ 63) ∧ (match seqIndex? i xs.length with
      | some k => (match xs[k]? with
        | some y => Q y (upd H l (.lst (xs.eraseIdx k)))
        | none => False)
      | none => False)
    | _ => False)) := by first | rfl | (cases x <;> rfl)
theorem mInsert_1 {l : Addr} {i : Int} {y : V} {H : Hp} {Q : VK} : mInsert (.ref l) [.int i, y] H Q = ((match H l with
    | some (.lst xs) => (xs.length < sizeLine ∧ 0 ≤ i ∧ i < 2 ^ 63) ∧ Q .non (upd H l (.lst (xs.take i.toNat ++ [y] ++ xs.drop i.toNat)))
    | _ => False)) := by first | rfl | (cases x <;> rfl)
theorem mUpper_1 {a : Str} {H : Hp} {Q : VK} : mUpper (.str a) [] H Q = (a.length ≤ 5592405 ∧ Q (.str (Txt.upper a)) H) := by first | rfl | (cases x <;> rfl)
end Rm
/-! Rm, part K: walks over whatever is at hand; comprehensions. -/
namespace Rm
open PySem PySem.Spec L2
open PyProof.Rows hiding St
/-- no exception leaves -/
def noW : WX := fun _ _ _ _ => False
theorem tkF {X : Cx} : Takes X noW := fun u s' x => by
  obtain ⟨_, _, _, _, _, _, _, _, _, _, _, _, _, _, _, _, z⟩ := x
  exact z.elim
/-- a list, a tuple or a text, walked -/
def iAny (K : PySem.W.Frag) (te : TE) : TI := fun σ H R => te σ H fun v H1 => match v with
  | .ref a => (match rdo H1 a with
    | some (.lst _) => R (Itl K a) H1
    | some (.tup _) => R (Itt K a) H1
    | _ => False)
  | .str z => R (Its z) H1
  | _ => False
theorem pi_any {X : Cx} {tg e : Expr} {te : TE} (he : PE X e te) : PI X tg e (iAny X.K te) := by
  refine ⟨fun pins s σ H R I h => thn (he.run pins s σ H _ I h) fun v s1 z => ?_⟩
  obtain ⟨y, H1, I1, r1, q⟩ := z
  split at q
  · obtain rfl := (show v = Value.ref _ from r1)
    split at q
    · rename_i e
      obtain ⟨its, rv, p, _⟩ := I1.list (rdo_l e)
      exact wpAny_pyIter_list p.isList (pi_one (tk := s1.toks) I1 _ (turn_list _ _) ⟨_, Heap.get?_push_size _ rfl, rfl, rfl⟩ q)
    · rename_i e
      obtain ⟨its, rv, p, _⟩ := I1.tuple (rdo_t e)
      exact wpAny_pyIter_tuple (show s1.heap.IsTuple _ its.toArray from p) (pi_one (tk := s1.toks) I1 _ (turn_tuple _ _) ⟨_, Heap.get?_push_size _ rfl, rfl, rfl⟩ q)
    · exact q.elim
  · rename_i z
    obtain ⟨t, rfl⟩ := r1
    cases ha : z.cps.all (· < 128)
    · exact wpAny_pyIter_wide ha (pi_one (tk := s1.toks) I1 _ (turn_str _ z t "str_iterator" (.inr rfl)) ⟨_, Heap.get?_push_size _ rfl, rfl, rfl⟩ q)
    · exact wpAny_pyIter_ascii ha (pi_one (tk := s1.toks) I1 _ (turn_str _ z t "str_ascii_iterator" (.inl rfl)) ⟨_, Heap.get?_push_size _ rfl, rfl, rfl⟩ q)
  · exact q.elim
/-- x in a text, x a sign -/
def rInT : R2 := fun x y H Q => match x, y with
  | .str a, .str z => (match a.cps.toList with
    | [c] => Q (.bl (decide (c ∈ z.cps.toList))) H
    | _ => False)
  | _, _ => False
section
variable {X : Cx} {x : Str} {pos : Pos}
theorem opInT : OpR X (compareOp .In) rInT := by
  intro pins s σ H x y v u Q I rx ry h
  unfold rInT at h
  split at h
  · rename_i a z
    split at h
    · rename_i c e
      have ea : a = ⟨#[c]⟩ := by
        obtain ⟨l⟩ := a
        have : l = #[c] := by
          have := congrArg List.toArray e
          simpa using this
        rw [this]
      subst ea
      exact op_inS pins s σ H _ _ v u Q I rx ry ⟨c, z, rfl, rfl, h⟩
    · exact h.elim
  · exact h.elim
/-- a module's text -/
theorem pe_gs {i : Str} (hm : ∃ t, X.mg x = some (.str i t)) (hg : Gl X x := by rfl) (hd : (x == ("__debug__" : Str)) = false := by decide) : PE X (.Name x pos) (tC (.str i)) := by
  obtain ⟨t, e⟩ := hm
  exact pe_glob hg e ⟨_, rfl⟩ hd
end
/-- all() of bools in a list -/
def rAllN (K : PySem.W.Frag) : List V → Hp → VK → Prop := fun vs H Q => ∃ (a : Addr) (bs : List Bool), vs = [V.ref a] ∧ SqL K H a (bs.map V.bl) ∧ Q (.bl (bs.all id)) H
theorem rInT_1 {c : Nat} {z : Str} {H : Hp} {Q : VK} : rInT (.str ⟨#[c]⟩) (.str z) H Q = Q (.bl (decide (c ∈ z.cps.toList))) H := rfl
/-- sep.join of texts in a list -/
def mJoin (x : V) (vs : List V) (H : Hp) (Q : VK) : Prop := ∃ (a : Str) (p : Addr) (ys : List Str), x = .str a ∧ vs = [.ref p] ∧ rdo H p = some (.lst (ys.map V.str)) ∧ (ys.map (·.length)).sum + ys.length * a.length ≤ 16777216 ∧ Q (.str (Txt.join a ys)) H
theorem mtJoin {X : Cx} : MtR X "str.join" mJoin := by
  intro pins s σ H x xs v us Q I rx r h
  obtain ⟨a, p, ys, rfl, rfl, e, hz, q⟩ := h
  exact mt_join pins s σ H _ _ v us Q I rx r ⟨a, p, ys, rfl, rfl, Or.inl (rdo_l e), hz, q⟩

theorem take_sign {α : Type} {z : Str} {i c : Nat} (f : Nat → α) (h : z.cps[i]? = some c) : (z.cps.toList.take (i + 1)).map f = (z.cps.toList.take i).map f ++ [f c] := by
  have : z.cps.toList[i]? = some c := by simpa using h
  rw [List.take_add_one, this, List.map_append]
  rfl
theorem take_item {α β : Type} {xs : List α} {i : Nat} {x : α} (f : α → β) (h : xs[i]? = some x) : (xs.take (i + 1)).map f = (xs.take i).map f ++ [f x] := by
  rw [List.take_add_one, h, List.map_append]
  rfl
theorem joinL_nil : ∀ ps : List (List Nat), TL.joinL [] ps = ps.flatten
  | [] => rfl
  | [p] => by simp [TL.joinL]
  | p :: q :: r => by
    show p ++ ([] ++ TL.joinL [] (q :: r)) = _
    rw [joinL_nil (q :: r)]
    rfl
theorem join_cps (ws : List Str) : (Txt.join Str.empty ws).cps.toList = (ws.map fun w => w.cps.toList).flatten := by
  have e : TL.tl (Txt.join Str.empty ws) = TL.joinL (TL.tl Str.empty) (ws.map TL.tl) := (congrArg TL.tl (TL.join_eq Str.empty ws)).trans (TL.tl_join Str.empty ws)
  have e2 := joinL_nil (ws.map TL.tl)
  exact e.trans e2
theorem join_asc (ws : List Str) (h : ∀ w ∈ ws, asc w = true ∧ w.length = 1) : asc (Txt.join Str.empty ws) = true ∧ (Txt.join Str.empty ws).length = ws.length := by
  constructor
  · rw [asc_iff, join_cps]
    intro c hc
    obtain ⟨l, hl, hc⟩ := List.mem_flatten.mp hc
    obtain ⟨w, hw, rfl⟩ := List.mem_map.mp hl
    exact asc_iff.mp (h w hw).1 c hc
  · have : (Txt.join Str.empty ws).length = (Txt.join Str.empty ws).cps.toList.length := Array.length_toList.symm
    rw [this, join_cps]
    clear this
    induction ws with
    | nil => rfl
    | cons w r ih =>
      rw [List.map_cons, List.flatten_cons, List.length_append, ih fun x hx => h x (List.mem_cons_of_mem _ hx)]
      have : w.cps.toList.length = w.length := Array.length_toList
      rw [this, (h w List.mem_cons_self).2, List.length_cons]
      omega
theorem sum_ones : ∀ ws : List Str, (∀ w ∈ ws, w.length = 1) → (ws.map (·.length)).sum = ws.length
  | [], _ => rfl
  | w :: r, h => by
    rw [List.map_cons, List.sum_cons, sum_ones r (fun x hx => h x (List.mem_cons_of_mem _ hx)), h w List.mem_cons_self, List.length_cons]
    omega
theorem rdo_ext {H H1 : Hp} {a : Addr} {o : HO} (h : rdo H a = some o) (x : Ext H H1) : rdo H1 a = some o := by
  have : rdo H1 a = rdo H a := by
    obtain ⟨u, hu⟩ := rdo_some h
    unfold rdo
    rw [hu, x _ _ hu]
  rw [this]
  exact h
/-! ### a list that is being made, apart from all else -/
structure LstI (t : Addr) (H0 : Hp) (l : Addr) (H : Hp) (xs : List V) (ds : List PyData) : Prop where
  p : Tp t H0 H
  n : H0 l = none
  at_ : H l = some (.lst xs)
  A : DrA (hid l (newp H0 H)) xs ds
section
variable {t l p : Addr} {H0 H H' : Hp} {xs ys : List V} {ds es : List PyData}
theorem LstI.lt (I : LstI t H0 l H xs ds) : l ≠ t := fun e => by
  subst e
  exact tape_some I.p.a I.n
theorem LstI.step (I : LstI t H0 l H xs ds) (q : Tp t H H') : LstI t H0 l H' xs ds := ⟨I.p.trans q, I.n, q.x _ _ I.lt I.at_, DrA.ext (hid_mono (I.p.left q)) I.A⟩
theorem LstI.put (I : LstI t H0 l H xs ds) (A : DrA (hid l (newp H0 H)) ys es) : LstI t H0 l (upd H l (.lst ys)) ys es := by
  refine ⟨⟨I.p.a, I.p.b.upd I.lt, fun b o n e => ?_⟩, I.n, upd_same, DrA.ext (fun b o e => ?_) A⟩
  · have : b ≠ l := fun q => by rw [q, I.n] at e; cases e
    rw [upd_ne this]
    exact I.p.x b o n e
  · obtain ⟨n, e⟩ := hid_some e
    obtain ⟨h1, h2, h3⟩ := newp_some' e
    rw [hid_ne n]
    exact newp_of h1 (by rw [upd_ne n]; exact h2) h3
/-- a new list of such items -/
theorem LstI.fresh (I : LstI t H0 l H xs ds) (hp : H p = none) (A : DrA (hid l (newp H0 H)) ys es) : LstI t H0 p (upd H p (.lst ys)) ys es := by
  have q := I.p.trans (Tp.of_ext I.p.b (Ext.new (o := .lst ys) hp))
  refine ⟨q, I.p.none hp, upd_same, DrA.ext (fun b o e => ?_) A⟩
  obtain ⟨n, e⟩ := hid_some e
  obtain ⟨h1, h2, h3⟩ := newp_some' e
  have n2 : b ≠ p := ne_of_none h2 hp
  rw [hid_ne n2]
  exact newp_of h1 (by rw [upd_ne n2]; exact h2) h3
/-- a datum made behind, within -/
theorem LstI.new {v : V} {d : PyData} (I : LstI t H0 l H xs ds) (q : Tp t H H') (h : Dr (newp H H') v d) : Dr (hid l (newp H0 H')) v d := Dr.ext ((newp_hid1 I.at_).trans (hid_mono I.p.right)) h
theorem LstI.rd (I : LstI t H0 l H xs ds) : rdo H l = some (.lst xs) := rdo_of I.at_ (fun _ _ z => nomatch z)
theorem LstI.dr (I : LstI t H0 l H xs ds) : Dr (newp H0 H) (.ref l) (.list ds) := .lst (rdo_of (newp_of I.n I.at_) (fun _ _ z => nomatch z)) (DrA.ext Ext.hid_in I.A)
theorem LstI.len (I : LstI t H0 l H xs ds) : xs.length = ds.length := I.A.length
/-- the first list, of items told -/
theorem LstI.mk' (q : Tp t H0 H) (hp : H p = none) (A : DrA (newp H0 H) xs ds) : LstI t H0 p (upd H p (.lst xs)) xs ds := by
  have q2 := q.trans (Tp.of_ext q.b (Ext.new (o := .lst xs) hp))
  refine ⟨q2, q.none hp, upd_same, DrA.ext (fun b o e => ?_) A⟩
  obtain ⟨h1, h2, h3⟩ := newp_some' e
  have n2 : b ≠ p := ne_of_none h2 hp
  rw [hid_ne n2]
  exact newp_of h1 (by rw [upd_ne n2]; exact h2) h3
/-- the tuple of its items -/
theorem LstI.tup (I : LstI t H0 l H xs ds) (hp : H p = none) : Tp t H0 (upd H p (.tup xs)) ∧ Dr (newp H0 (upd H p (.tup xs))) (.ref p) (.tuple ds) := by
  have q := Tp.of_ext (H1 := upd H p (.tup xs)) I.p.b (Ext.new hp)
  exact ⟨I.p.trans q, .tup (rdo_of (newp_of (I.p.none hp) upd_same) (fun _ _ z => nomatch z)) (DrA.ext (I.p.left q) (DrA.ext Ext.hid_in I.A))⟩
end
theorem DrA.ins {H : Hp} {w : V} {e : PyData} (he : Dr H w e) : ∀ {vs : List V} {ds : List PyData}, DrA H vs ds → ∀ i : Nat, DrA H (vs.take i ++ [w] ++ vs.drop i) (ds.take i ++ [e] ++ ds.drop i)
  | [], _, a, i => by cases a; simp; exact .cons he .nil
  | v :: vs, _, a, i => by
    cases a with
    | cons h1 a =>
      cases i with
      | zero => exact .cons he (.cons h1 a)
      | succ i => exact .cons h1 (DrA.ins he a i)
theorem DrA.rep {H : Hp} {vs : List V} {ds : List PyData} (h : DrA H vs ds) : ∀ n : Nat, DrA H (List.replicate n vs).flatten (List.replicate n ds).flatten
  | 0 => .nil
  | n + 1 => by
    rw [List.replicate_succ, List.replicate_succ, List.flatten_cons, List.flatten_cons]
    exact h.append (DrA.rep h n)
end Rm
/-! Rm, part H: the law's end (repr allowed, the script's bits known). -/
namespace Rm
open PySem PySem.Spec L2
open PyProof.Rows hiding St

/-- what stands before a law's call -/
structure Before (P : Program) (w : World) (K : PySem.W.Frag) (mg mb : Str → Option Value) (s : Shared) (a : Addr) (vs : List Value) (ns : List Int) : Prop where
  kin : K.In s.heap
  nm : s.heap.Ns mainGlobals mg
  nb : s.heap.Ns builtinsNs mb
  bb : ∀ x : Str, x ≠ "__name__" → mb x = bootBuiltins x
  lim : s.heap.NoLimit
  gens : s.gens = #[]
  obj : s.heap.get? a = some { cls := .type "list", data := .seq vs.toArray }
  hi : IntsAre vs ns
  len : ns.length ≤ sizeLine
/-- the abstract heap there: at most the script -/
structure Start (P : Program) (w : World) (K : PySem.W.Frag) (s : Shared) (a : Addr) (ns : List Int) (H : Hp) : Prop where
  only : Only H
  sq : SqL K H a (ns.map V.int)
  ok : HOk P w H s.heap
  at_ : ∀ b, b ≠ a → H b = none
  out : H a ≠ none → K.lookup a = none
variable {P : Program} {w : World} {K : PySem.W.Frag} {mg mb : Str → Option Value} {s : Shared} {a : Addr} {vs : List Value} {ns : List Int} {H : Hp}
theorem Before.start (B : Before P w K mg mb s a vs ns) : ∃ H, Start P w K s a ns H := by
  have hv := vals_ints B.hi
  cases q : K.lookup a with
  | some o =>
    have e := (B.kin a o q).symm.trans B.obj
    injection e with e
    subst e
    have lv := B.hi.length
    have sz : vs.toArray.size ≤ sizeLine := by
      have := B.len
      rw [List.size_toArray]
      omega
    exact ⟨fun _ => none, fun _ => Or.inl rfl, Or.inr ⟨_, _, _, q, rfl, rfl, rfl, sz, hv⟩, fun b u z => by injection z, fun _ _ => rfl, fun z => (z rfl).elim⟩
  | none =>
    let o : Obj := { cls := .type "list", data := .seq vs.toArray }
    have hs : upd (fun _ => none) a (.frz o (.lst (ns.map V.int))) a = some (.frz o (.lst (ns.map V.int))) := upd_same
    refine ⟨upd (fun _ => none) a (.frz o (.lst (ns.map V.int))), fun b => ?_, Or.inl (Or.inr ⟨o, hs⟩), fun b u z => ?_, fun b hb => upd_ne hb, fun _ => q⟩
    · by_cases hb : b = a
      · subst hb
        exact Or.inr ⟨_, _, hs⟩
      · exact Or.inl (upd_ne hb)
    · by_cases hb : b = a
      · subst hb
        injection hs.symm.trans z with z
        subst z
        refine ⟨B.obj, ?_, vs, _, hv, B.obj⟩
        rw [List.length_map]
        exact B.len
      · rw [upd_ne hb] at z
        injection z
theorem Start.env (S : Start P w K s a ns H) (B : Before P w K mg mb s a vs ns) : K.In (hidT s.heap H) ∧ (hidT s.heap H).Ns mainGlobals mg ∧ Env0 P w K mg (hidT s.heap H) callerA [] s H := by
  have plain : ∀ {b : Addr} {o : Obj} {es : Array DictEntry} {n : Nat}, s.heap.get? b = some o → o.data = .dict es n → (hidT s.heap H).get? b = some o := fun {b o es n} e d => by
    by_cases hb : b = a
    · subst hb
      injection e.symm.trans B.obj with e
      subst e
      injection d
    · exact hidT_get e (S.at_ b hb)
  have nsOf : ∀ {b : Addr} {m : Str → Option Value}, s.heap.Ns b m → (hidT s.heap H).Ns b m := fun {b m} z => by
    obtain ⟨o, es, n, e, d, r⟩ := z
    exact ⟨o, es, n, plain e d, d, r⟩
  have kb : K.In (hidT s.heap H) := fun b o e => by
    refine hidT_get (B.kin b o e) ?_
    by_cases hb : b = a
    · subst hb
      refine Classical.byContradiction fun z => ?_
      have := S.out z
      rw [e] at this
      injection this
    · exact S.at_ b hb
  obtain ⟨mc, l1, l2⟩ := B.lim
  refine ⟨kb, nsOf B.nm, ⟨rfl, ⟨kb, nsOf B.nm, ⟨mb, nsOf B.nb, B.bb⟩, ⟨mc, nsOf l1, l2⟩⟩, fun _ _ e => of_hidT e, Nat.le_of_eq (hidT_size _ _), trivial, fun b hb => ?_, S.ok, .of_eq B.gens⟩⟩
  exact absurd (show b ∈ ([] : List Addr) from hb) List.not_mem_nil
theorem Start.end_ (S : Start P w K s a ns H) {v : V} {u : Value} {H' : Hp} {h' : Heap} (un : Un (frs []) [] H H' s.heap h') (ok : HOk P w H' h') : OldK s.heap h' := OldK.of_keep fun b o e => by
  rcases S.only b with z | ⟨ob, xs, z⟩
  · exact un.keep b o e z (fun q => by cases q) (by simp)
  · obtain ⟨e1, _⟩ := S.ok b _ z
    obtain ⟨e2, _⟩ := ok b _ (un.frzs b ob _ z)
    injection e.symm.trans e1 with e
    subst e
    exact e2
theorem cx_none {outer : List Env} {e : Value} {s' : Shared} (h : L2.CX P w outer H s L2.E0 e s') : False := by
  obtain ⟨_, _, _, _, _, _, _, _, _, _, _, _, z⟩ := h
  exact z
theorem law_callG {k : Nat} {fa : Addr} {fd : FuncData} {x : Str} {sp : Sp} (B : Before P w K mg mb s a vs ns) (hr : Room k callerA) (F : ∀ base : Heap, K.In base → base.Ns mainGlobals mg → FnG P w K mg base (L2.CX P w) k fa fd [x] sp)
    (hb : ∀ (s : Shared) (u : Value), BindsTo s fd ⟨[u], []⟩ [(x, u)]) (hsp : ∀ H : Hp, Only H → SqL K H a (ns.map V.int) → sp [.ref a] H (fun v _ => v = .bl true) L2.E0) :
    codeAny (model P w) callerA (.call (.ref fa) ⟨[.ref a], []⟩) (fun r s' => r = .ok (.ret (.bool true)) ∧ OldK s.heap s'.heap ∧ s'.os = s.os ∧ AllBare s'.gens) s := by
  obtain ⟨H, S⟩ := B.start
  obtain ⟨kb, nb, e0⟩ := S.env B
  refine codeAny_mono ((F _ kb nb).go callerA rfl hr [] s H ⟨[.ref a], []⟩ [.ref a] [.ref a] _ _ e0 (hb s (.ref a)) (.cons rfl .nil) (hsp H S.only S.sq)) fun r s' h => ?_
  match r, h with
  | .error e, h => exact (cx_none h).elim
  | .ok (.ret u), ⟨v, H', os, bare, un, ok, rv, q⟩ =>
    subst q
    have rv' : u = Value.bool true := rv
    subst rv'
    exact ⟨rfl, S.end_ (v := .non) (u := .none) un ok, os, bare⟩
  | .ok .next, h => cases h
  | .ok .brk, h => cases h
  | .ok .cont, h => cases h
/-- a law's row, from its def's promise -/
theorem walkG {l : PySem.W.OpenLaw} {n k : Nat} {q : Program} {loose : List Str} {XP : (Str → Option Value) → Heap → Prop} {YP : World → Heap → Prop} {d : DefRec} {x : Str}
    (hn : l.most = some n) (hn2 : n ≤ sizeLine) (hdf : d.params.defaults = []) (hr : Room k callerA)
    (F : ∀ (w : World) (mg : Str → Option Value) (fa : Addr) (h : Heap), YP w h → h.Ns mainGlobals mg → mg d.name = some (.ref fa) →
      ∃ (K : PySem.W.Frag) (fd : FuncData) (sp : Sp), K.In h ∧ (∀ (s : Shared) (u : Value), BindsTo s fd ⟨[u], []⟩ [(x, u)]) ∧
        (∀ (H : Hp) (a : Addr) (ns : List Int), ns.length ≤ n → (∀ z ∈ ns, Builtin.Int.intBits z ≤ 1048576) → Only H → SqL K H a (ns.map V.int) → sp [.ref a] H (fun v _ => v = .bl true) L2.E0) ∧
        ∀ base : Heap, K.In base → base.Ns mainGlobals mg → FnG l.prog w K mg base (L2.CX l.prog w) k fa fd [x] sp) :
    PySem.W.WalkO q loose XP YP l.row.toRowW d [] (fun f vs => PySem.call f vs) := by
  refine Att.attach_callB hn hdf fun w s₀ s₁ mg mb fa o pm cd doc a vs ns G Y _ _ _ hmg hobj hints hlen hbits hg => ?_
  obtain ⟨K, fd, sp, kx, hb, hsp, hF⟩ := F w mg fa _ Y G.T.g hmg
  exact law_callG ⟨kx, G.T.g, G.T.b, G.T.builtins, G.T.nolimit, hg, hobj, hints, Nat.le_trans hlen hn2⟩ hr hF hb fun H hO hS => hsp H a ns hlen hbits hO hS
/-! ### what the head tells -/
/-- a head's Hook: the facts by names, and one more Bool -/
def lookR (fa : List He.Fa) (fn : List He.DefD) (ex : PySem.W.Frag → Bool) (K : PySem.W.Frag) : He.AlD × Bool := (He.obsD fa fn K, ex K)
def obsR (n : Nat) (fa : List He.Fa) (fn : List He.DefD) (ex : PySem.W.Frag → Bool) (g : Addr → Option Obj) : He.AlD × Bool := lookR fa fn ex (He.frG g (He.asD g n))
def SaysR (fa : List He.Fa) (fn : List He.DefD) (ex : PySem.W.Frag → Bool) (K : PySem.W.Frag) : Prop := He.SaysD fa fn K ∧ ex K = true
def hookR (n : Nat) (fa : List He.Fa) (fn : List He.DefD) (ex : PySem.W.Frag → Bool) : PySem.W.Hook :=
  ⟨He.AlD × Bool, fun s => obsR n fa fn ex s.heap.get?, fun _ => (He.valD fn, true), fun _ h => ∃ K : PySem.W.Frag, K.In h ∧ SaysR fa fn ex K,
    fun _ s e => ⟨He.frG s.heap.get? (He.asD s.heap.get? n), He.frG_in, congrArg Prod.fst e, congrArg Prod.snd e⟩,
    fun _ _ _ z k => by
      obtain ⟨K, hK, c⟩ := z
      exact ⟨K, hK.keeps k, c⟩⟩
theorem obsR_eq {n : Nat} {fa : List He.Fa} {fn : List He.DefD} {ex : PySem.W.Frag → Bool} (s : PySem.W.SharedT) : obsR n fa fn ex (HandSHeadRun.getT s) = (hookR n fa fn ex).obs s.abs := by
  show obsR n fa fn ex (HandSHeadRun.getT s) = obsR n fa fn ex s.abs.heap.get?
  rw [show HandSHeadRun.getT s = s.abs.heap.get? from funext (HandSHeadRun.getT_eq s)]
theorem cst_of {K : PySem.W.Frag} {h : Heap} {mg : Str → Option Value} {x : Str} {vs : List He.Dv} (X : K.In h) (G : h.Ns mainGlobals mg) (c : (He.Fa.glo x).ok K = true) (t : He.tupB K x vs = true) : Cst K mg x (vs.map (He.Dv.v K)) := ⟨_, He.glo_ok X G c, He.tupB_ok t⟩
/-- a def, told by the head -/
theorem at_of {K : PySem.W.Frag} {h : Heap} {mg : Str → Option Value} {x : Str} {st : Stmt} {ps : List Str} {fd : FuncData} (X : K.In h) (G : h.Ns mainGlobals mg) (c : (He.Fa.glo x).ok K = true) (F : FunD K x x (defArgs st) (defBody st) (defScope st) [] [] (He.fAd K (x, none)) fd)
    (b : ∀ (kV doc pm : Value) (an : Option Addr) (cdv ct : Value) (us : List Value), us.length = ps.length → bindArgs (PySem.W.fnOf x x (defArgs st) (defBody st) (defScope st) .none kV doc pm an cdv ct) ⟨us, []⟩ = pure (ps.zip us)) : At K mg x x st ps (He.fAd K (x, none)) fd :=
  ⟨F, He.glo_ok X G c, FunD.bindsN F b⟩
end Rm
namespace Rm
open PySem PySem.Spec L2
open PyProof.Rows hiding St
abbrev topS (i : Nat) : Stmt := PySem.Challenge.pw_rowmarks_k51_what_is_an_operation.main.body.getD i (.Pass ⟨0, 0, 0, 0⟩)
abbrev s_is_mode : Stmt := topS 2
theorem sc_is_mode : FnScope ["value"] ["value"] (defScope s_is_mode) := ⟨rfl, rfl, rfl, by decide +kernel, rfl, by decide +kernel, by decide +kernel⟩
abbrev s_is_change_mode : Stmt := topS 3
theorem sc_is_change_mode : FnScope ["value"] ["value"] (defScope s_is_change_mode) := ⟨rfl, rfl, rfl, by decide +kernel, rfl, by decide +kernel, by decide +kernel⟩
abbrev s_is_integer : Stmt := topS 8
theorem sc_is_integer : FnScope ["value"] ["value"] (defScope s_is_integer) := ⟨rfl, rfl, rfl, by decide +kernel, rfl, by decide +kernel, by decide +kernel⟩
abbrev s_is_from_to : Stmt := topS 9
theorem sc_is_from_to : FnScope ["value", "least", "most"] ["value", "least", "most"] (defScope s_is_from_to) := ⟨rfl, rfl, rfl, by decide +kernel, rfl, by decide +kernel, by decide +kernel⟩
abbrev s_law_tape : Stmt := topS 20
theorem sc_law_tape : FnScope ["_law_script", "_law_start", "_law_mixed", "_law_cell", "_law_digits"] ["_law_script", "_law_start"] (defScope s_law_tape) := ⟨rfl, rfl, rfl, by decide +kernel, rfl, by decide +kernel, by decide +kernel⟩
abbrev s_law_pick : Stmt := topS 21
theorem sc_law_pick : FnScope ["_law_tape_here", "_law_many", "_law_found", "_law_once"] ["_law_tape_here", "_law_many"] (defScope s_law_pick) := ⟨rfl, rfl, rfl, by decide +kernel, rfl, by decide +kernel, by decide +kernel⟩
abbrev s_law_one_of : Stmt := topS 22
theorem sc_law_one_of : FnScope ["_law_tape_here", "_law_items"] ["_law_tape_here", "_law_items"] (defScope s_law_one_of) := ⟨rfl, rfl, rfl, by decide +kernel, rfl, by decide +kernel, by decide +kernel⟩
abbrev s_law_any : Stmt := topS 23
theorem sc_law_any : FnScope ["_law_tape_here", "_law_some"] ["_law_tape_here"] (defScope s_law_any) := ⟨rfl, rfl, rfl, by decide +kernel, rfl, by decide +kernel, by decide +kernel⟩
abbrev s_law_bent_word : Stmt := topS 27
theorem sc_law_bent_word : FnScope ["_law_tape_here", "_law_word", "_law_at", "_law_road"] ["_law_tape_here", "_law_word"] (defScope s_law_bent_word) := ⟨rfl, rfl, rfl, by decide +kernel, rfl, by decide +kernel, by decide +kernel⟩
def modeWs : List Str := ["hold", "keep", "change", "replace"]
def sp_is_mode : Sp := fun vs H Q _ => ∃ v d, vs = [v] ∧ Dr H v d ∧ Q (.bl (inS modeWs d)) H
def changeWs : List Str := ["change", "replace"]
def sp_is_change_mode : Sp := fun vs H Q _ => ∃ v d, vs = [v] ∧ Dr H v d ∧ ∀ H', Ext H H' → Q (.bl (inS changeWs d)) H'
def sp_is_integer : Sp := fun vs H Q _ => ∃ v d, vs = [v] ∧ Dr H v d ∧ Q (.bl (isI d)) H
def fromTo (a b : Int) (d : PyData) : Bool := match d with
  | .int i => decide (a ≤ i) && decide (i ≤ b)
  | _ => false
def sp_is_from_to : Sp := fun vs H Q _ => ∃ v d a b, vs = [v, .int a, .int b] ∧ Dr H v d ∧ Q (.bl (fromTo a b d)) H
/-- the script: at most 63 ints of at most a million bits -/
def ScriptAt (K : PySem.W.Frag) (H : Hp) (a : Addr) (ns : List Int) : Prop := SqL K H a (ns.map V.int) ∧ ns.length ≤ 63 ∧ ∀ z ∈ ns, Builtin.Int.intBits z ≤ 1048576
def sp_law_tape (K : PySem.W.Frag) : Sp := fun vs H Q _ => ∃ (a : Addr) (ns : List Int) (st : Int), vs = [.ref a, .int st] ∧ ScriptAt K H a ns ∧ (0 ≤ st ∧ st ≤ 100) ∧ ∀ (t : Addr) (H' : Hp), H t = none → (∀ b, b ≠ t → H' b = H b) → TapeAt H' t → Q (.ref t) H'
def sp_law_pick : Sp := fun vs H Q _ => ∃ (t : Addr) (n : Int), vs = [.ref t, .int n] ∧ TapeAt H t ∧ (0 < n ∧ n < 2 ^ 30) ∧ ∀ (r : Int) (H' : Hp), 0 ≤ r → r < n → (∀ b, b ≠ t → H' b = H b) → TapeAt H' t → Q (.int r) H'
/-- the items of a list or tuple -/
def Items (H : Hp) (l : Addr) (xs : List V) : Prop := rdo H l = some (.lst xs) ∨ rdo H l = some (.tup xs)
def sp_law_one_of : Sp := fun vs H Q _ => (∃ (t l : Addr) (xs : List V), vs = [.ref t, .ref l] ∧ TapeAt H t ∧ Items H l xs ∧ (0 < xs.length ∧ xs.length ≤ 1000) ∧ ∀ (v : V) (H' : Hp), v ∈ xs → (∀ b, b ≠ t → H' b = H b) → TapeAt H' t → Q v H') ∨
  ∃ (t : Addr) (z : Str), vs = [.ref t, .str z] ∧ TapeAt H t ∧ (0 < z.length ∧ z.length ≤ 1000) ∧ ∀ (c : Nat) (H' : Hp), c ∈ z.cps.toList → (∀ b, b ≠ t → H' b = H b) → TapeAt H' t → Q (.str ⟨#[c]⟩) H'
theorem one_lit {t : Addr} {H H1 : Hp} {Q : VK} {W : XK} {v : V} {ds : List PyData} (hT : TapeAt H t) (e1 : Ext H H1) (L : Dr (newp H H1) v (.list ds)) (hl : 0 < ds.length ∧ ds.length ≤ 1000)
    (k : ∀ (x : V) (d : PyData) (H2 : Hp), d ∈ ds → Dr (newp H H2) x d → Tp t H H2 → Q x H2) : sp_law_one_of [.ref t, v] H1 Q W := by
  cases L with
  | @lst a xs _ r A =>
  have l := A.length
  have p1 := Tp.of_ext hT e1
  refine Or.inl ⟨t, a, xs, rfl, p1.b, Or.inl (rdo_of (lst_new r) (fun _ _ z => nomatch z)), by omega, fun x H2 hx fr hT2 => ?_⟩
  obtain ⟨d, hd, dv⟩ := DrA.mem A hx
  have p2 := Tp.of_fr p1.b hT2 fr
  exact k x d H2 hd (Dr.ext (p1.left p2) dv) (p1.trans p2)
theorem one_strs {t : Addr} {H H1 : Hp} {Q : VK} {W : XK} {v : V} (ws : List Str) (hT : TapeAt H t) (e1 : Ext H H1) (L : Dr (newp H H1) v (.list (ws.map PyData.str))) (hl : 0 < (ws.map PyData.str).length ∧ (ws.map PyData.str).length ≤ 1000)
    (k : ∀ (z : Str) (H2 : Hp), z ∈ ws → Tp t H H2 → Q (.str z) H2) : sp_law_one_of [.ref t, v] H1 Q W :=
  one_lit hT e1 L hl fun x d H2 hd dx p => by
    obtain ⟨z, hz, rfl⟩ := List.mem_map.mp hd
    obtain rfl := dr_str dx
    exact k z H2 hz p

def anyA : List PyData := [.none, .bool true, .bool false, .int 0, .int 1, .int 2, .int 7, .int (0 - 1), .int (10 ^ (40 : Int).toNat), .str "", .str "a", .str "x", .str "hold", .str "locks", .str "Hold", .str "change "]
def anyB : List PyData := [.str "abcdefg", .tuple [], .list [], .dict [], .tuple [.int 1], .list [.int 1], .dict [(keyD (.inr "x"), .int 1)], .tuple [.int 1, .str "locks", .str "hold"], .tuple [.str "hold"], .list [.str "hold"], .str "1"]
def anyDs : List PyData := anyA ++ anyB
def sp_law_any : Sp := fun vs H Q _ => ∃ t : Addr, vs = [.ref t] ∧ TapeAt H t ∧ ∀ (v : V) (d : PyData) (H' : Hp), d ∈ anyDs → Dr (newp H H') v d → Tp t H H' → Q v H'
def sp_law_bent_word : Sp := fun vs H Q _ => ∃ (t : Addr) (w : Str), vs = [.ref t, .str w] ∧ TapeAt H t ∧ (0 < w.length ∧ w.length ≤ 100 ∧ asc w = true) ∧ ∀ (s : Str) (H' : Hp), asc s = true → s.length ≤ w.length + 1 → Tp t H H' → Q (.str s) H'
section
variable {P : Program} {w : World} {K : PySem.W.Frag} {mg : Str → Option Value} {base : Heap}
theorem ok_is_mode {f0 : Addr} {fd0 : FuncData} (F : At K mg "is_mode" "is_mode" s_is_mode ["value"] f0 fd0) (B : Bt mg)  (C_WORDS : Cst K mg "WORDS" [(V.str "hold"), (V.str "keep"), (V.str "change"), (V.str "replace")]) : Def P w K mg base "is_mode" ["value"] 1 sp_is_mode := by
  refine okD F sc_is_mode (fun vs H Q E h => by obtain ⟨_, _, rfl, _⟩ := h; rfl) (fun cdv A outer s H vs Q E hr tk po h => ?_)
  have hu := hu_of hr
  have hu64 := hr.units
  have hc := (show (true : Bool) = true from rfl)
  have nd := sc_is_mode.nd
  refine ⟨_, (pss_one (ps_ret (pe_and (pe_callB callIsi (by rfl) B.isinstance boot_isinstance (pa_cons (pn 0) (pa_cons (pe_bltn (v := .ty "str") (by rfl) B.str boot_str rfl) pa_nil))) (pe_one (pe_inC (pn 0) (pc_cst C_WORDS) gC_m))))), ?_⟩
  clear hu hu64 hc nd tk po hr B C_WORDS
  obtain ⟨v, d, rfl, hd, k⟩ := h
  rw [show L2.start _ _ = [some v] from rfl]
  simp only [tSeq, tIfS, tTest, tOp, tV, tC, tAsg, gName, gSub, tRet, tRetN, tCB, tCons, tNil, tDrop, tNext, tAnd, tOr, tNot, tAndV, tOrV, tNotV, tIf, tTru, tUn, tCallS, WE, tTup, tLst, tSl, tPart, tNoPart, tPar, tChain, tBM, tBM0, tM0, tM1, gTup, gCons, gNil, tInC, gC, gN, tCallK, tCst, tRevL, ok_str, ok_int, ok_bool, ok_tuple, ok_list, ok_dict, sub_str, sub_tup, sub_lst, sub_bool, sub_int, sub_dict, Bool.not_true, Bool.not_false, kisS_none, kisS_bool, kisS_int, kisS_str, kisS_list, kisS_tuple, kisS_dict, kisT_none, kisT_bool, kisT_int, kisT_str, kisT_list, kisT_tuple, kisT_dict, kisL_none, kisL_bool, kisL_int, kisL_str, kisL_list, kisL_tuple, kisL_dict, kisB_none, kisB_bool, kisB_int, kisB_str, kisB_list, kisB_tuple, kisB_dict, kisI_none, kisI_bool, kisI_int, kisI_str, kisI_list, kisI_tuple, kisI_dict, kisIB_none, kisIB_bool, kisIB_int, kisIB_str, kisIB_list, kisIB_tuple, kisIB_dict, kisD_none, kisD_bool, kisD_int, kisD_str, kisD_list, kisD_tuple, kisD_dict, rEqU, rNeU, rAdd_1, rAdd_2, rAdd_3, rAdd_4, rSub_1, rMul_1, rMul_2, rMul_3, rDiv_1, rMod_1, rPow_1, rNeg_1, rLt_1, rLe_1, rLe_2, rGt_1, rGe_1, rIs_1, rIs_2, rIsNot_1, rIsNot_2, rMem_1, rItem_1, rItem_2, rStore_1, rLen_1, rLen_2, rInt_1, rInt_2, rMax_1, rMin_1, rList_1, rTuple_1, rAbs_1, rIsi_1, rSlice_1, rSlice_2, mAppend_1, mExtend_1, mPop_1, mPop_2, mInsert_1, mUpper_1, rInT_1, eqR_rr, eqR_rs, eqR_ri, eqR_rb, eqR_rn, eqR_sr, eqR_ir, eqR_br, eqR_nr, isCol_l, isCol_t, isCol_d, isSeq_l, isSeq_t, iAny, wipe, tYes, List.isEmpty_nil, List.isEmpty_cons, truN_non, truN_bl, truN_int, tyN_non, tyN_bl, tyN_int, tyN_str, keyOf, scal_nn, scal_nb, scal_ni, scal_ns, scal_nr, scal_bn, scal_bb, scal_bs, scal_br, scal_in, scal_ii, scal_is, scal_ir, scal_sn, scal_sb, scal_si, scal_ss, scal_sr, scal_rn, scal_rb, scal_ri, scal_rs, scal_rr, decide_true, decide_false, List.map_cons, List.map_nil, List.set_cons_zero, List.set_cons_succ, List.getElem?_cons_zero, List.getElem?_cons_succ, List.getElem?_nil, exists_eq_left, exists_eq_left', V.bl.injEq, V.int.injEq, V.str.injEq, V.ref.injEq, if_true, if_false, ite_true, ite_false, Bool.false_eq_true, eq_self, true_and, and_true, decide_eq_true_eq, tyN_dr hd]
  refine ite2 (fun hs => ?_) (fun hs => ?_)
  · obtain ⟨s, rfl⟩ := of_isS hs
    obtain rfl := dr_str hd
    refine ⟨rfl, by decide, ?_⟩
    have e := inV_str modeWs s
    simp only [modeWs, List.map_cons, List.map_nil] at e
    rw [e]
    exact k
  · have e : inS modeWs d = false := by cases d <;> first | rfl | exact absurd rfl hs
    rw [e] at k
    exact k
theorem ok_is_change_mode {f0 : Addr} {fd0 : FuncData} (F : At K mg "is_change_mode" "is_change_mode" s_is_change_mode ["value"] f0 fd0) (B : Bt mg)  (C_WORDS : Cst K mg "WORDS" [(V.str "hold"), (V.str "keep"), (V.str "change"), (V.str "replace")]) : Def P w K mg base "is_change_mode" ["value"] 1 sp_is_change_mode := by
  refine okD F sc_is_change_mode (fun vs H Q E h => by obtain ⟨_, _, rfl, _⟩ := h; rfl) (fun cdv A outer s H vs Q E hr tk po h => ?_)
  have hu := hu_of hr
  have hu64 := hr.units
  have hc := (show (true : Bool) = true from rfl)
  have nd := sc_is_change_mode.nd
  refine ⟨_, (pss_one (ps_ret (pe_and (pe_callB callIsi (by rfl) B.isinstance boot_isinstance (pa_cons (pn 0) (pa_cons (pe_bltn (v := .ty "str") (by rfl) B.str boot_str rfl) pa_nil))) (pe_one (pe_inC (pn 0) (pc_cut (lo := (some 2)) (hi := none) C_WORDS (po_some pe_int) po_none (fun _ _ _ q => ⟨_, rfl, q⟩) (fun _ _ _ q => q)) gN_m))))), ?_⟩
  clear hu hu64 hc nd tk po hr B C_WORDS
  obtain ⟨v, d, rfl, hd, k⟩ := h
  rw [show L2.start _ _ = [some v] from rfl]
  simp only [tSeq, tIfS, tTest, tOp, tV, tC, tAsg, gName, gSub, tRet, tRetN, tCB, tCons, tNil, tDrop, tNext, tAnd, tOr, tNot, tAndV, tOrV, tNotV, tIf, tTru, tUn, tCallS, WE, tTup, tLst, tSl, tPart, tNoPart, tPar, tChain, tBM, tBM0, tM0, tM1, gTup, gCons, gNil, tInC, gC, gN, tCallK, tCst, tRevL, ok_str, ok_int, ok_bool, ok_tuple, ok_list, ok_dict, sub_str, sub_tup, sub_lst, sub_bool, sub_int, sub_dict, Bool.not_true, Bool.not_false, kisS_none, kisS_bool, kisS_int, kisS_str, kisS_list, kisS_tuple, kisS_dict, kisT_none, kisT_bool, kisT_int, kisT_str, kisT_list, kisT_tuple, kisT_dict, kisL_none, kisL_bool, kisL_int, kisL_str, kisL_list, kisL_tuple, kisL_dict, kisB_none, kisB_bool, kisB_int, kisB_str, kisB_list, kisB_tuple, kisB_dict, kisI_none, kisI_bool, kisI_int, kisI_str, kisI_list, kisI_tuple, kisI_dict, kisIB_none, kisIB_bool, kisIB_int, kisIB_str, kisIB_list, kisIB_tuple, kisIB_dict, kisD_none, kisD_bool, kisD_int, kisD_str, kisD_list, kisD_tuple, kisD_dict, rEqU, rNeU, rAdd_1, rAdd_2, rAdd_3, rAdd_4, rSub_1, rMul_1, rMul_2, rMul_3, rDiv_1, rMod_1, rPow_1, rNeg_1, rLt_1, rLe_1, rLe_2, rGt_1, rGe_1, rIs_1, rIs_2, rIsNot_1, rIsNot_2, rMem_1, rItem_1, rItem_2, rStore_1, rLen_1, rLen_2, rInt_1, rInt_2, rMax_1, rMin_1, rList_1, rTuple_1, rAbs_1, rIsi_1, rSlice_1, rSlice_2, mAppend_1, mExtend_1, mPop_1, mPop_2, mInsert_1, mUpper_1, rInT_1, eqR_rr, eqR_rs, eqR_ri, eqR_rb, eqR_rn, eqR_sr, eqR_ir, eqR_br, eqR_nr, isCol_l, isCol_t, isCol_d, isSeq_l, isSeq_t, iAny, wipe, tYes, List.isEmpty_nil, List.isEmpty_cons, truN_non, truN_bl, truN_int, tyN_non, tyN_bl, tyN_int, tyN_str, keyOf, scal_nn, scal_nb, scal_ni, scal_ns, scal_nr, scal_bn, scal_bb, scal_bs, scal_br, scal_in, scal_ii, scal_is, scal_ir, scal_sn, scal_sb, scal_si, scal_ss, scal_sr, scal_rn, scal_rb, scal_ri, scal_rs, scal_rr, decide_true, decide_false, List.map_cons, List.map_nil, List.set_cons_zero, List.set_cons_succ, List.getElem?_cons_zero, List.getElem?_cons_succ, List.getElem?_nil, exists_eq_left, exists_eq_left', V.bl.injEq, V.int.injEq, V.str.injEq, V.ref.injEq, if_true, if_false, ite_true, ite_false, Bool.false_eq_true, eq_self, true_and, and_true, decide_eq_true_eq, tyN_dr hd]
  refine ite2 (fun hs => ?_) (fun hs => ?_)
  · obtain ⟨s, rfl⟩ := of_isS hs
    obtain rfl := dr_str hd
    refine ⟨rfl, by decide, fun p hp => ?_⟩
    have e := inV_str changeWs s
    rw [show cutV _ _ _ = changeWs.map V.str by decide, e]
    exact k _ (Ext.new hp)
  · have e : inS changeWs d = false := by cases d <;> first | rfl | exact absurd rfl hs
    rw [e] at k
    exact k _ (Ext.refl H)
theorem ok_is_integer {f0 : Addr} {fd0 : FuncData} (F : At K mg "is_integer" "is_integer" s_is_integer ["value"] f0 fd0) (B : Bt mg)   : Def P w K mg base "is_integer" ["value"] 1 sp_is_integer := by
  refine okD F sc_is_integer (fun vs H Q E h => by obtain ⟨_, _, rfl, _⟩ := h; rfl) (fun cdv A outer s H vs Q E hr tk po h => ?_)
  have hu := hu_of hr
  have hu64 := hr.units
  have hc := (show (true : Bool) = true from rfl)
  have nd := sc_is_integer.nd
  refine ⟨_, (pss_one (ps_ret (pe_and (pe_callB callIsi (by rfl) B.isinstance boot_isinstance (pa_cons (pn 0) (pa_cons (pe_bltn (v := .ty "int") (by rfl) B.int boot_int rfl) pa_nil))) (pe_one (pe_not (pe_callB callIsi (by rfl) B.isinstance boot_isinstance (pa_cons (pn 0) (pa_cons (pe_bltn (v := .ty "bool") (by rfl) B.bool boot_bool rfl) pa_nil)))))))), ?_⟩
  clear hu hu64 hc nd tk po hr B
  obtain ⟨v, d, rfl, hd, k⟩ := h
  rw [show L2.start _ _ = [some v] from rfl]
  simp only [tSeq, tIfS, tTest, tOp, tV, tC, tAsg, gName, gSub, tRet, tRetN, tCB, tCons, tNil, tDrop, tNext, tAnd, tOr, tNot, tAndV, tOrV, tNotV, tIf, tTru, tUn, tCallS, WE, tTup, tLst, tSl, tPart, tNoPart, tPar, tChain, tBM, tBM0, tM0, tM1, gTup, gCons, gNil, tInC, gC, gN, tCallK, tCst, tRevL, ok_str, ok_int, ok_bool, ok_tuple, ok_list, ok_dict, sub_str, sub_tup, sub_lst, sub_bool, sub_int, sub_dict, Bool.not_true, Bool.not_false, kisS_none, kisS_bool, kisS_int, kisS_str, kisS_list, kisS_tuple, kisS_dict, kisT_none, kisT_bool, kisT_int, kisT_str, kisT_list, kisT_tuple, kisT_dict, kisL_none, kisL_bool, kisL_int, kisL_str, kisL_list, kisL_tuple, kisL_dict, kisB_none, kisB_bool, kisB_int, kisB_str, kisB_list, kisB_tuple, kisB_dict, kisI_none, kisI_bool, kisI_int, kisI_str, kisI_list, kisI_tuple, kisI_dict, kisIB_none, kisIB_bool, kisIB_int, kisIB_str, kisIB_list, kisIB_tuple, kisIB_dict, kisD_none, kisD_bool, kisD_int, kisD_str, kisD_list, kisD_tuple, kisD_dict, rEqU, rNeU, rAdd_1, rAdd_2, rAdd_3, rAdd_4, rSub_1, rMul_1, rMul_2, rMul_3, rDiv_1, rMod_1, rPow_1, rNeg_1, rLt_1, rLe_1, rLe_2, rGt_1, rGe_1, rIs_1, rIs_2, rIsNot_1, rIsNot_2, rMem_1, rItem_1, rItem_2, rStore_1, rLen_1, rLen_2, rInt_1, rInt_2, rMax_1, rMin_1, rList_1, rTuple_1, rAbs_1, rIsi_1, rSlice_1, rSlice_2, mAppend_1, mExtend_1, mPop_1, mPop_2, mInsert_1, mUpper_1, rInT_1, eqR_rr, eqR_rs, eqR_ri, eqR_rb, eqR_rn, eqR_sr, eqR_ir, eqR_br, eqR_nr, isCol_l, isCol_t, isCol_d, isSeq_l, isSeq_t, iAny, wipe, tYes, List.isEmpty_nil, List.isEmpty_cons, truN_non, truN_bl, truN_int, tyN_non, tyN_bl, tyN_int, tyN_str, keyOf, scal_nn, scal_nb, scal_ni, scal_ns, scal_nr, scal_bn, scal_bb, scal_bs, scal_br, scal_in, scal_ii, scal_is, scal_ir, scal_sn, scal_sb, scal_si, scal_ss, scal_sr, scal_rn, scal_rb, scal_ri, scal_rs, scal_rr, decide_true, decide_false, List.map_cons, List.map_nil, List.set_cons_zero, List.set_cons_succ, List.getElem?_cons_zero, List.getElem?_cons_succ, List.getElem?_nil, exists_eq_left, exists_eq_left', V.bl.injEq, V.int.injEq, V.str.injEq, V.ref.injEq, if_true, if_false, ite_true, ite_false, Bool.false_eq_true, eq_self, true_and, and_true, decide_eq_true_eq, tyN_dr hd]
  rw [← isIB_not] at k
  refine ite2 (fun hs => ?_) (fun hs => ?_)
  · rw [hs] at k
    exact k
  · rw [Bool.not_eq_true] at hs
    rw [hs] at k
    exact k
theorem ok_is_from_to {f0 : Addr} {fd0 : FuncData} (F : At K mg "is_from_to" "is_from_to" s_is_from_to ["value", "least", "most"] f0 fd0) (B : Bt mg)  (D_is_integer : Def P w K mg base "is_integer" ["value"] 1 sp_is_integer) : Def P w K mg base "is_from_to" ["value", "least", "most"] 2 sp_is_from_to := by
  refine okD F sc_is_from_to (fun vs H Q E h => by obtain ⟨_, _, _, _, rfl, _⟩ := h; rfl) (fun cdv A outer s H vs Q E hr tk po h => ?_)
  have hu := hu_of hr
  have hu64 := hr.units
  have hc := (show (true : Bool) = true from rfl)
  have nd := sc_is_from_to.nd
  refine ⟨_, (pss_one (ps_ret (pe_and (pe_fn D_is_integer (hr.mono (by decide)) tk (pa_cons (pn 0) pa_nil)) (pe_one (pe_chain opLe opLe (pn 1) (pn 0) (pn 2)))))), ?_⟩
  clear hu hu64 hc nd tk po hr B D_is_integer
  obtain ⟨v, d, a, b, rfl, hd, k⟩ := h
  rw [show L2.start _ _ = [some v, some (.int a), some (.int b)] from rfl]
  simp only [tSeq, tIfS, tTest, tOp, tV, tC, tAsg, gName, gSub, tRet, tRetN, tCB, tCons, tNil, tDrop, tNext, tAnd, tOr, tNot, tAndV, tOrV, tNotV, tIf, tTru, tUn, tCallS, WE, tTup, tLst, tSl, tPart, tNoPart, tPar, tChain, tBM, tBM0, tM0, tM1, gTup, gCons, gNil, tInC, gC, gN, tCallK, tCst, tRevL, ok_str, ok_int, ok_bool, ok_tuple, ok_list, ok_dict, sub_str, sub_tup, sub_lst, sub_bool, sub_int, sub_dict, Bool.not_true, Bool.not_false, kisS_none, kisS_bool, kisS_int, kisS_str, kisS_list, kisS_tuple, kisS_dict, kisT_none, kisT_bool, kisT_int, kisT_str, kisT_list, kisT_tuple, kisT_dict, kisL_none, kisL_bool, kisL_int, kisL_str, kisL_list, kisL_tuple, kisL_dict, kisB_none, kisB_bool, kisB_int, kisB_str, kisB_list, kisB_tuple, kisB_dict, kisI_none, kisI_bool, kisI_int, kisI_str, kisI_list, kisI_tuple, kisI_dict, kisIB_none, kisIB_bool, kisIB_int, kisIB_str, kisIB_list, kisIB_tuple, kisIB_dict, kisD_none, kisD_bool, kisD_int, kisD_str, kisD_list, kisD_tuple, kisD_dict, rEqU, rNeU, rAdd_1, rAdd_2, rAdd_3, rAdd_4, rSub_1, rMul_1, rMul_2, rMul_3, rDiv_1, rMod_1, rPow_1, rNeg_1, rLt_1, rLe_1, rLe_2, rGt_1, rGe_1, rIs_1, rIs_2, rIsNot_1, rIsNot_2, rMem_1, rItem_1, rItem_2, rStore_1, rLen_1, rLen_2, rInt_1, rInt_2, rMax_1, rMin_1, rList_1, rTuple_1, rAbs_1, rIsi_1, rSlice_1, rSlice_2, mAppend_1, mExtend_1, mPop_1, mPop_2, mInsert_1, mUpper_1, rInT_1, eqR_rr, eqR_rs, eqR_ri, eqR_rb, eqR_rn, eqR_sr, eqR_ir, eqR_br, eqR_nr, isCol_l, isCol_t, isCol_d, isSeq_l, isSeq_t, iAny, wipe, tYes, List.isEmpty_nil, List.isEmpty_cons, truN_non, truN_bl, truN_int, tyN_non, tyN_bl, tyN_int, tyN_str, keyOf, scal_nn, scal_nb, scal_ni, scal_ns, scal_nr, scal_bn, scal_bb, scal_bs, scal_br, scal_in, scal_ii, scal_is, scal_ir, scal_sn, scal_sb, scal_si, scal_ss, scal_sr, scal_rn, scal_rb, scal_ri, scal_rs, scal_rr, decide_true, decide_false, List.map_cons, List.map_nil, List.set_cons_zero, List.set_cons_succ, List.getElem?_cons_zero, List.getElem?_cons_succ, List.getElem?_nil, exists_eq_left, exists_eq_left', V.bl.injEq, V.int.injEq, V.str.injEq, V.ref.injEq, if_true, if_false, ite_true, ite_false, Bool.false_eq_true, eq_self, true_and, and_true, decide_eq_true_eq]
  refine ⟨v, d, rfl, hd, ?_⟩
  simp only [tSeq, tIfS, tTest, tOp, tV, tC, tAsg, gName, gSub, tRet, tRetN, tCB, tCons, tNil, tDrop, tNext, tAnd, tOr, tNot, tAndV, tOrV, tNotV, tIf, tTru, tUn, tCallS, WE, tTup, tLst, tSl, tPart, tNoPart, tPar, tChain, tBM, tBM0, tM0, tM1, gTup, gCons, gNil, tInC, gC, gN, tCallK, tCst, tRevL, ok_str, ok_int, ok_bool, ok_tuple, ok_list, ok_dict, sub_str, sub_tup, sub_lst, sub_bool, sub_int, sub_dict, Bool.not_true, Bool.not_false, kisS_none, kisS_bool, kisS_int, kisS_str, kisS_list, kisS_tuple, kisS_dict, kisT_none, kisT_bool, kisT_int, kisT_str, kisT_list, kisT_tuple, kisT_dict, kisL_none, kisL_bool, kisL_int, kisL_str, kisL_list, kisL_tuple, kisL_dict, kisB_none, kisB_bool, kisB_int, kisB_str, kisB_list, kisB_tuple, kisB_dict, kisI_none, kisI_bool, kisI_int, kisI_str, kisI_list, kisI_tuple, kisI_dict, kisIB_none, kisIB_bool, kisIB_int, kisIB_str, kisIB_list, kisIB_tuple, kisIB_dict, kisD_none, kisD_bool, kisD_int, kisD_str, kisD_list, kisD_tuple, kisD_dict, rEqU, rNeU, rAdd_1, rAdd_2, rAdd_3, rAdd_4, rSub_1, rMul_1, rMul_2, rMul_3, rDiv_1, rMod_1, rPow_1, rNeg_1, rLt_1, rLe_1, rLe_2, rGt_1, rGe_1, rIs_1, rIs_2, rIsNot_1, rIsNot_2, rMem_1, rItem_1, rItem_2, rStore_1, rLen_1, rLen_2, rInt_1, rInt_2, rMax_1, rMin_1, rList_1, rTuple_1, rAbs_1, rIsi_1, rSlice_1, rSlice_2, mAppend_1, mExtend_1, mPop_1, mPop_2, mInsert_1, mUpper_1, rInT_1, eqR_rr, eqR_rs, eqR_ri, eqR_rb, eqR_rn, eqR_sr, eqR_ir, eqR_br, eqR_nr, isCol_l, isCol_t, isCol_d, isSeq_l, isSeq_t, iAny, wipe, tYes, List.isEmpty_nil, List.isEmpty_cons, truN_non, truN_bl, truN_int, tyN_non, tyN_bl, tyN_int, tyN_str, keyOf, scal_nn, scal_nb, scal_ni, scal_ns, scal_nr, scal_bn, scal_bb, scal_bs, scal_br, scal_in, scal_ii, scal_is, scal_ir, scal_sn, scal_sb, scal_si, scal_ss, scal_sr, scal_rn, scal_rb, scal_ri, scal_rs, scal_rr, decide_true, decide_false, List.map_cons, List.map_nil, List.set_cons_zero, List.set_cons_succ, List.getElem?_cons_zero, List.getElem?_cons_succ, List.getElem?_nil, exists_eq_left, exists_eq_left', V.bl.injEq, V.int.injEq, V.str.injEq, V.ref.injEq, if_true, if_false, ite_true, ite_false, Bool.false_eq_true, eq_self, true_and, and_true, decide_eq_true_eq]
  refine ite2 (fun hs => ?_) (fun hs => ?_)
  · obtain ⟨i, rfl⟩ := of_isI hs
    obtain rfl := dr_int hd
    simp only [tSeq, tIfS, tTest, tOp, tV, tC, tAsg, gName, gSub, tRet, tRetN, tCB, tCons, tNil, tDrop, tNext, tAnd, tOr, tNot, tAndV, tOrV, tNotV, tIf, tTru, tUn, tCallS, WE, tTup, tLst, tSl, tPart, tNoPart, tPar, tChain, tBM, tBM0, tM0, tM1, gTup, gCons, gNil, tInC, gC, gN, tCallK, tCst, tRevL, ok_str, ok_int, ok_bool, ok_tuple, ok_list, ok_dict, sub_str, sub_tup, sub_lst, sub_bool, sub_int, sub_dict, Bool.not_true, Bool.not_false, kisS_none, kisS_bool, kisS_int, kisS_str, kisS_list, kisS_tuple, kisS_dict, kisT_none, kisT_bool, kisT_int, kisT_str, kisT_list, kisT_tuple, kisT_dict, kisL_none, kisL_bool, kisL_int, kisL_str, kisL_list, kisL_tuple, kisL_dict, kisB_none, kisB_bool, kisB_int, kisB_str, kisB_list, kisB_tuple, kisB_dict, kisI_none, kisI_bool, kisI_int, kisI_str, kisI_list, kisI_tuple, kisI_dict, kisIB_none, kisIB_bool, kisIB_int, kisIB_str, kisIB_list, kisIB_tuple, kisIB_dict, kisD_none, kisD_bool, kisD_int, kisD_str, kisD_list, kisD_tuple, kisD_dict, rEqU, rNeU, rAdd_1, rAdd_2, rAdd_3, rAdd_4, rSub_1, rMul_1, rMul_2, rMul_3, rDiv_1, rMod_1, rPow_1, rNeg_1, rLt_1, rLe_1, rLe_2, rGt_1, rGe_1, rIs_1, rIs_2, rIsNot_1, rIsNot_2, rMem_1, rItem_1, rItem_2, rStore_1, rLen_1, rLen_2, rInt_1, rInt_2, rMax_1, rMin_1, rList_1, rTuple_1, rAbs_1, rIsi_1, rSlice_1, rSlice_2, mAppend_1, mExtend_1, mPop_1, mPop_2, mInsert_1, mUpper_1, rInT_1, eqR_rr, eqR_rs, eqR_ri, eqR_rb, eqR_rn, eqR_sr, eqR_ir, eqR_br, eqR_nr, isCol_l, isCol_t, isCol_d, isSeq_l, isSeq_t, iAny, wipe, tYes, List.isEmpty_nil, List.isEmpty_cons, truN_non, truN_bl, truN_int, tyN_non, tyN_bl, tyN_int, tyN_str, keyOf, scal_nn, scal_nb, scal_ni, scal_ns, scal_nr, scal_bn, scal_bb, scal_bs, scal_br, scal_in, scal_ii, scal_is, scal_ir, scal_sn, scal_sb, scal_si, scal_ss, scal_sr, scal_rn, scal_rb, scal_ri, scal_rs, scal_rr, decide_true, decide_false, List.map_cons, List.map_nil, List.set_cons_zero, List.set_cons_succ, List.getElem?_cons_zero, List.getElem?_cons_succ, List.getElem?_nil, exists_eq_left, exists_eq_left', V.bl.injEq, V.int.injEq, V.str.injEq, V.ref.injEq, if_true, if_false, ite_true, ite_false, Bool.false_eq_true, eq_self, true_and, and_true, decide_eq_true_eq]
    simp only [fromTo] at k
    refine ite2 (fun h1 => ?_) (fun h1 => ?_)
    · rw [decide_eq_true h1, Bool.true_and] at k
      exact k
    · rw [decide_eq_false h1, Bool.false_and] at k
      exact k
  · have e : fromTo a b d = false := by cases d <;> first | rfl | exact absurd rfl hs
    rw [e] at k
    exact k
theorem ok_law_tape {f0 : Addr} {fd0 : FuncData} (F : At K mg "_law_tape" "_law_tape" s_law_tape ["_law_script", "_law_start"] f0 fd0) (B : Bt mg)   : Def P w K mg base "_law_tape" ["_law_script", "_law_start"] 1 (sp_law_tape K) := by
  refine okD F sc_law_tape (fun vs H Q E h => by obtain ⟨_, _, _, rfl, _⟩ := h; rfl) (fun cdv A outer s H vs Q E hr tk po h => ?_)
  have hu := hu_of hr
  have hu64 := hr.units
  have hc := (show (true : Bool) = true from rfl)
  have nd := sc_law_tape.nd
  refine ⟨_, (pss_cons (ps_set (i := 2) nd rfl (Or.inl rfl) (pe_op opAdd pe_int (pe_op opMul (pn 1) pe_int)))
      (pss_cons (ps_for po hc (pi_list (pn 0)) (pg_name (i := 3) nd rfl (Or.inl rfl)) (pss_one (ps_set (i := 2) nd rfl (Or.inl rfl) (pe_op opAdd (pe_op opMod (pe_callTy callInt (by rfl) B.int boot_int (pa_cons (pe_op opPow (pe_op opAdd (pe_op opAdd (pe_op opMul (pn 2) pe_int) (pe_op opMul (pn 3) (pn 3))) pe_int) pe_int) pa_nil)) pe_int) pe_int))))
      (pss_cons (ps_set (i := 4) nd rfl (Or.inl rfl) (pe_ifExp (PW.pt (pw_and (pt_cmpR opLt (pn 1) (pe_callB call_len_seq (by rfl) B.len bt_len (pa_cons (pn 0) pa_nil)) (nomark _)) (pw_and1 (pt_cmpR opGe (pe_ix ix_list (pn 0) (pn 1) (fun _ _ => rfl)) (pe_op opPow pe_int pe_int) (nomark _))))) (pe_op opSub (pe_ix ix_list (pn 0) (pn 1) (fun _ _ => rfl)) (pe_op opPow pe_int pe_int)) pe_int))
      (pss_one (ps_ret (pe_disp (pps_cons pe_str (pn 4) (pps_cons pe_str (pn 2) pps_nil)) (by rfl) (by rfl) (fun z => by cases z) (by decide))))))), ?_⟩
  clear hu hu64 hc nd tk po hr B
  obtain ⟨a, ns, st, rfl, ⟨hS, hl, hbit⟩, ⟨hs0, hs1⟩, k⟩ := h
  rw [show L2.start _ _ = [some (.ref a), some (.int st), none, none, none] from rfl]
  refine sq fun N hN => ?_
  simp only [tSeq, tIfS, tTest, tOp, tV, tC, tAsg, gName, gSub, tRet, tRetN, tCB, tCons, tNil, tDrop, tNext, tAnd, tOr, tNot, tAndV, tOrV, tNotV, tIf, tTru, tUn, tCallS, WE, tTup, tLst, tSl, tPart, tNoPart, tPar, tChain, tBM, tBM0, tM0, tM1, gTup, gCons, gNil, tInC, gC, gN, tCallK, tCst, tRevL, ok_str, ok_int, ok_bool, ok_tuple, ok_list, ok_dict, sub_str, sub_tup, sub_lst, sub_bool, sub_int, sub_dict, Bool.not_true, Bool.not_false, kisS_none, kisS_bool, kisS_int, kisS_str, kisS_list, kisS_tuple, kisS_dict, kisT_none, kisT_bool, kisT_int, kisT_str, kisT_list, kisT_tuple, kisT_dict, kisL_none, kisL_bool, kisL_int, kisL_str, kisL_list, kisL_tuple, kisL_dict, kisB_none, kisB_bool, kisB_int, kisB_str, kisB_list, kisB_tuple, kisB_dict, kisI_none, kisI_bool, kisI_int, kisI_str, kisI_list, kisI_tuple, kisI_dict, kisIB_none, kisIB_bool, kisIB_int, kisIB_str, kisIB_list, kisIB_tuple, kisIB_dict, kisD_none, kisD_bool, kisD_int, kisD_str, kisD_list, kisD_tuple, kisD_dict, rEqU, rNeU, rAdd_1, rAdd_2, rAdd_3, rAdd_4, rSub_1, rMul_1, rMul_2, rMul_3, rDiv_1, rMod_1, rPow_1, rNeg_1, rLt_1, rLe_1, rLe_2, rGt_1, rGe_1, rIs_1, rIs_2, rIsNot_1, rIsNot_2, rMem_1, rItem_1, rItem_2, rStore_1, rLen_1, rLen_2, rInt_1, rInt_2, rMax_1, rMin_1, rList_1, rTuple_1, rAbs_1, rIsi_1, rSlice_1, rSlice_2, mAppend_1, mExtend_1, mPop_1, mPop_2, mInsert_1, mUpper_1, rInT_1, eqR_rr, eqR_rs, eqR_ri, eqR_rb, eqR_rn, eqR_sr, eqR_ir, eqR_br, eqR_nr, isCol_l, isCol_t, isCol_d, isSeq_l, isSeq_t, iAny, wipe, tYes, List.isEmpty_nil, List.isEmpty_cons, truN_non, truN_bl, truN_int, tyN_non, tyN_bl, tyN_int, tyN_str, keyOf, scal_nn, scal_nb, scal_ni, scal_ns, scal_nr, scal_bn, scal_bb, scal_bs, scal_br, scal_in, scal_ii, scal_is, scal_ir, scal_sn, scal_sb, scal_si, scal_ss, scal_sr, scal_rn, scal_rb, scal_ri, scal_rs, scal_rr, decide_true, decide_false, List.map_cons, List.map_nil, List.set_cons_zero, List.set_cons_succ, List.getElem?_cons_zero, List.getElem?_cons_succ, List.getElem?_nil, exists_eq_left, exists_eq_left', V.bl.injEq, V.int.injEq, V.str.injEq, V.ref.injEq, if_true, if_false, ite_true, ite_false, Bool.false_eq_true, eq_self, true_and, and_true, decide_eq_true_eq]
  refine ⟨mul_ok (by omega), ?_⟩
  refine hN _ _ ?_; clear hN N
  refine sq fun N hN => ?_
  refine ⟨a, rfl, ⟨_, hS⟩, for_list (xs := ns.map V.int) (fun i σ H' => H' = H ∧ ∃ m c, σ = [some (.ref a), some (.int st), some (.int m), c, none] ∧ 0 ≤ m ∧ m < 2147483565) ⟨rfl, _, none, rfl, by omega, by omega⟩ (fun i σ H' _ p => by rw [p.1]; exact hS) (fun i x σ H' hx p => ?_) (fun σ H' p => ?_)⟩
  · obtain ⟨rfl, m, c, rfl, hm0, hm1⟩ := p
    obtain ⟨z, hz, rfl⟩ := List.mem_map.mp (List.mem_of_getElem? hx)
    have hb := hbit z hz
    simp only [tSeq, tIfS, tTest, tOp, tV, tC, tAsg, gName, gSub, tRet, tRetN, tCB, tCons, tNil, tDrop, tNext, tAnd, tOr, tNot, tAndV, tOrV, tNotV, tIf, tTru, tUn, tCallS, WE, tTup, tLst, tSl, tPart, tNoPart, tPar, tChain, tBM, tBM0, tM0, tM1, gTup, gCons, gNil, tInC, gC, gN, tCallK, tCst, tRevL, ok_str, ok_int, ok_bool, ok_tuple, ok_list, ok_dict, sub_str, sub_tup, sub_lst, sub_bool, sub_int, sub_dict, Bool.not_true, Bool.not_false, kisS_none, kisS_bool, kisS_int, kisS_str, kisS_list, kisS_tuple, kisS_dict, kisT_none, kisT_bool, kisT_int, kisT_str, kisT_list, kisT_tuple, kisT_dict, kisL_none, kisL_bool, kisL_int, kisL_str, kisL_list, kisL_tuple, kisL_dict, kisB_none, kisB_bool, kisB_int, kisB_str, kisB_list, kisB_tuple, kisB_dict, kisI_none, kisI_bool, kisI_int, kisI_str, kisI_list, kisI_tuple, kisI_dict, kisIB_none, kisIB_bool, kisIB_int, kisIB_str, kisIB_list, kisIB_tuple, kisIB_dict, kisD_none, kisD_bool, kisD_int, kisD_str, kisD_list, kisD_tuple, kisD_dict, rEqU, rNeU, rAdd_1, rAdd_2, rAdd_3, rAdd_4, rSub_1, rMul_1, rMul_2, rMul_3, rDiv_1, rMod_1, rPow_1, rNeg_1, rLt_1, rLe_1, rLe_2, rGt_1, rGe_1, rIs_1, rIs_2, rIsNot_1, rIsNot_2, rMem_1, rItem_1, rItem_2, rStore_1, rLen_1, rLen_2, rInt_1, rInt_2, rMax_1, rMin_1, rList_1, rTuple_1, rAbs_1, rIsi_1, rSlice_1, rSlice_2, mAppend_1, mExtend_1, mPop_1, mPop_2, mInsert_1, mUpper_1, rInT_1, eqR_rr, eqR_rs, eqR_ri, eqR_rb, eqR_rn, eqR_sr, eqR_ir, eqR_br, eqR_nr, isCol_l, isCol_t, isCol_d, isSeq_l, isSeq_t, iAny, wipe, tYes, List.isEmpty_nil, List.isEmpty_cons, truN_non, truN_bl, truN_int, tyN_non, tyN_bl, tyN_int, tyN_str, keyOf, scal_nn, scal_nb, scal_ni, scal_ns, scal_nr, scal_bn, scal_bb, scal_bs, scal_br, scal_in, scal_ii, scal_is, scal_ir, scal_sn, scal_sb, scal_si, scal_ss, scal_sr, scal_rn, scal_rb, scal_ri, scal_rs, scal_rr, decide_true, decide_false, List.map_cons, List.map_nil, List.set_cons_zero, List.set_cons_succ, List.getElem?_cons_zero, List.getElem?_cons_succ, List.getElem?_nil, exists_eq_left, exists_eq_left', V.bl.injEq, V.int.injEq, V.str.injEq, V.ref.injEq, if_true, if_false, ite_true, ite_false, Bool.false_eq_true, eq_self, true_and, and_true, decide_eq_true_eq]
    refine ⟨mul_ok (by omega), mul_sq hb, ⟨by decide, tape_bits (by omega) hb⟩, by decide, ?_⟩
    exact ⟨_, _, rfl, by have := Int.emod_nonneg ((m * 30013 + z * z + 11) ^ (2 : Int).toNat) (show (2147483563 : Int) ≠ 0 by decide); omega, by have := Int.emod_lt_of_pos ((m * 30013 + z * z + 11) ^ (2 : Int).toNat) (show (0 : Int) < 2147483563 by decide); omega⟩
  obtain ⟨rfl, m, c, rfl, hm0, hm1⟩ := p
  refine hN _ _ ?_; clear hN N
  refine sq fun N hN => ?_
  have fin : ∀ d, N [some (.ref a), some (.int st), some (.int m), c, some (.int d)] H' := fun d => by
    refine hN _ _ ?_
    refine fun p hp => ?_
    simp only [tSeq, tIfS, tTest, tOp, tV, tC, tAsg, gName, gSub, tRet, tRetN, tCB, tCons, tNil, tDrop, tNext, tAnd, tOr, tNot, tAndV, tOrV, tNotV, tIf, tTru, tUn, tCallS, WE, tTup, tLst, tSl, tPart, tNoPart, tPar, tChain, tBM, tBM0, tM0, tM1, gTup, gCons, gNil, tInC, gC, gN, tCallK, tCst, tRevL, ok_str, ok_int, ok_bool, ok_tuple, ok_list, ok_dict, sub_str, sub_tup, sub_lst, sub_bool, sub_int, sub_dict, Bool.not_true, Bool.not_false, kisS_none, kisS_bool, kisS_int, kisS_str, kisS_list, kisS_tuple, kisS_dict, kisT_none, kisT_bool, kisT_int, kisT_str, kisT_list, kisT_tuple, kisT_dict, kisL_none, kisL_bool, kisL_int, kisL_str, kisL_list, kisL_tuple, kisL_dict, kisB_none, kisB_bool, kisB_int, kisB_str, kisB_list, kisB_tuple, kisB_dict, kisI_none, kisI_bool, kisI_int, kisI_str, kisI_list, kisI_tuple, kisI_dict, kisIB_none, kisIB_bool, kisIB_int, kisIB_str, kisIB_list, kisIB_tuple, kisIB_dict, kisD_none, kisD_bool, kisD_int, kisD_str, kisD_list, kisD_tuple, kisD_dict, rEqU, rNeU, rAdd_1, rAdd_2, rAdd_3, rAdd_4, rSub_1, rMul_1, rMul_2, rMul_3, rDiv_1, rMod_1, rPow_1, rNeg_1, rLt_1, rLe_1, rLe_2, rGt_1, rGe_1, rIs_1, rIs_2, rIsNot_1, rIsNot_2, rMem_1, rItem_1, rItem_2, rStore_1, rLen_1, rLen_2, rInt_1, rInt_2, rMax_1, rMin_1, rList_1, rTuple_1, rAbs_1, rIsi_1, rSlice_1, rSlice_2, mAppend_1, mExtend_1, mPop_1, mPop_2, mInsert_1, mUpper_1, rInT_1, eqR_rr, eqR_rs, eqR_ri, eqR_rb, eqR_rn, eqR_sr, eqR_ir, eqR_br, eqR_nr, isCol_l, isCol_t, isCol_d, isSeq_l, isSeq_t, iAny, wipe, tYes, List.isEmpty_nil, List.isEmpty_cons, truN_non, truN_bl, truN_int, tyN_non, tyN_bl, tyN_int, tyN_str, keyOf, scal_nn, scal_nb, scal_ni, scal_ns, scal_nr, scal_bn, scal_bb, scal_bs, scal_br, scal_in, scal_ii, scal_is, scal_ir, scal_sn, scal_sb, scal_si, scal_ss, scal_sr, scal_rn, scal_rb, scal_ri, scal_rs, scal_rr, decide_true, decide_false, List.map_cons, List.map_nil, List.set_cons_zero, List.set_cons_succ, List.getElem?_cons_zero, List.getElem?_cons_succ, List.getElem?_nil, exists_eq_left, exists_eq_left', V.bl.injEq, V.int.injEq, V.str.injEq, V.ref.injEq, if_true, if_false, ite_true, ite_false, Bool.false_eq_true, eq_self, true_and, and_true, decide_eq_true_eq, tPairs]
    refine ⟨upd_same, [(.inr "digits", .int d), (.inr "mixed", .int m)], rfl, by show 2 ≤ 15; decide, ?_⟩
    have e : mergeK [] [((.inr "digits" : Key), V.int d), (.inr "mixed", .int m)] = tapeK d m := merge_tape d m
    rw [e]
    exact k p _ hp (fun b hb => by rw [upd_ne hb, upd_ne hb]) ⟨d, m, upd_same, by omega, by omega⟩
  simp only [tSeq, tIfS, tTest, tOp, tV, tC, tAsg, gName, gSub, tRet, tRetN, tCB, tCons, tNil, tDrop, tNext, tAnd, tOr, tNot, tAndV, tOrV, tNotV, tIf, tTru, tUn, tCallS, WE, tTup, tLst, tSl, tPart, tNoPart, tPar, tChain, tBM, tBM0, tM0, tM1, gTup, gCons, gNil, tInC, gC, gN, tCallK, tCst, tRevL, ok_str, ok_int, ok_bool, ok_tuple, ok_list, ok_dict, sub_str, sub_tup, sub_lst, sub_bool, sub_int, sub_dict, Bool.not_true, Bool.not_false, kisS_none, kisS_bool, kisS_int, kisS_str, kisS_list, kisS_tuple, kisS_dict, kisT_none, kisT_bool, kisT_int, kisT_str, kisT_list, kisT_tuple, kisT_dict, kisL_none, kisL_bool, kisL_int, kisL_str, kisL_list, kisL_tuple, kisL_dict, kisB_none, kisB_bool, kisB_int, kisB_str, kisB_list, kisB_tuple, kisB_dict, kisI_none, kisI_bool, kisI_int, kisI_str, kisI_list, kisI_tuple, kisI_dict, kisIB_none, kisIB_bool, kisIB_int, kisIB_str, kisIB_list, kisIB_tuple, kisIB_dict, kisD_none, kisD_bool, kisD_int, kisD_str, kisD_list, kisD_tuple, kisD_dict, rEqU, rNeU, rAdd_1, rAdd_2, rAdd_3, rAdd_4, rSub_1, rMul_1, rMul_2, rMul_3, rDiv_1, rMod_1, rPow_1, rNeg_1, rLt_1, rLe_1, rLe_2, rGt_1, rGe_1, rIs_1, rIs_2, rIsNot_1, rIsNot_2, rMem_1, rItem_1, rItem_2, rStore_1, rLen_1, rLen_2, rInt_1, rInt_2, rMax_1, rMin_1, rList_1, rTuple_1, rAbs_1, rIsi_1, rSlice_1, rSlice_2, mAppend_1, mExtend_1, mPop_1, mPop_2, mInsert_1, mUpper_1, rInT_1, eqR_rr, eqR_rs, eqR_ri, eqR_rb, eqR_rn, eqR_sr, eqR_ir, eqR_br, eqR_nr, isCol_l, isCol_t, isCol_d, isSeq_l, isSeq_t, iAny, wipe, tYes, List.isEmpty_nil, List.isEmpty_cons, truN_non, truN_bl, truN_int, tyN_non, tyN_bl, tyN_int, tyN_str, keyOf, scal_nn, scal_nb, scal_ni, scal_ns, scal_nr, scal_bn, scal_bb, scal_bs, scal_br, scal_in, scal_ii, scal_is, scal_ir, scal_sn, scal_sb, scal_si, scal_ss, scal_sr, scal_rn, scal_rb, scal_ri, scal_rs, scal_rr, decide_true, decide_false, List.map_cons, List.map_nil, List.set_cons_zero, List.set_cons_succ, List.getElem?_cons_zero, List.getElem?_cons_succ, List.getElem?_nil, exists_eq_left, exists_eq_left', V.bl.injEq, V.int.injEq, V.str.injEq, V.ref.injEq, if_true, if_false, ite_true, ite_false, Bool.false_eq_true, eq_self, true_and, and_true, decide_eq_true_eq]
  refine ⟨a, ns.map V.int, rfl, Or.inl hS, ?_⟩
  rw [List.length_map]
  refine ite2 (fun h1 => ?_) (fun _ => fin 0)
  have e1 : atI (ns.map V.int) st = some (.int (ns.getD st.toNat 0)) := at_script hs0 h1
  refine ⟨_, _, _, _, rfl, rfl, hS, e1, ⟨by decide, by decide⟩, ?_⟩
  simp only [tSeq, tIfS, tTest, tOp, tV, tC, tAsg, gName, gSub, tRet, tRetN, tCB, tCons, tNil, tDrop, tNext, tAnd, tOr, tNot, tAndV, tOrV, tNotV, tIf, tTru, tUn, tCallS, WE, tTup, tLst, tSl, tPart, tNoPart, tPar, tChain, tBM, tBM0, tM0, tM1, gTup, gCons, gNil, tInC, gC, gN, tCallK, tCst, tRevL, ok_str, ok_int, ok_bool, ok_tuple, ok_list, ok_dict, sub_str, sub_tup, sub_lst, sub_bool, sub_int, sub_dict, Bool.not_true, Bool.not_false, kisS_none, kisS_bool, kisS_int, kisS_str, kisS_list, kisS_tuple, kisS_dict, kisT_none, kisT_bool, kisT_int, kisT_str, kisT_list, kisT_tuple, kisT_dict, kisL_none, kisL_bool, kisL_int, kisL_str, kisL_list, kisL_tuple, kisL_dict, kisB_none, kisB_bool, kisB_int, kisB_str, kisB_list, kisB_tuple, kisB_dict, kisI_none, kisI_bool, kisI_int, kisI_str, kisI_list, kisI_tuple, kisI_dict, kisIB_none, kisIB_bool, kisIB_int, kisIB_str, kisIB_list, kisIB_tuple, kisIB_dict, kisD_none, kisD_bool, kisD_int, kisD_str, kisD_list, kisD_tuple, kisD_dict, rEqU, rNeU, rAdd_1, rAdd_2, rAdd_3, rAdd_4, rSub_1, rMul_1, rMul_2, rMul_3, rDiv_1, rMod_1, rPow_1, rNeg_1, rLt_1, rLe_1, rLe_2, rGt_1, rGe_1, rIs_1, rIs_2, rIsNot_1, rIsNot_2, rMem_1, rItem_1, rItem_2, rStore_1, rLen_1, rLen_2, rInt_1, rInt_2, rMax_1, rMin_1, rList_1, rTuple_1, rAbs_1, rIsi_1, rSlice_1, rSlice_2, mAppend_1, mExtend_1, mPop_1, mPop_2, mInsert_1, mUpper_1, rInT_1, eqR_rr, eqR_rs, eqR_ri, eqR_rb, eqR_rn, eqR_sr, eqR_ir, eqR_br, eqR_nr, isCol_l, isCol_t, isCol_d, isSeq_l, isSeq_t, iAny, wipe, tYes, List.isEmpty_nil, List.isEmpty_cons, truN_non, truN_bl, truN_int, tyN_non, tyN_bl, tyN_int, tyN_str, keyOf, scal_nn, scal_nb, scal_ni, scal_ns, scal_nr, scal_bn, scal_bb, scal_bs, scal_br, scal_in, scal_ii, scal_is, scal_ir, scal_sn, scal_sb, scal_si, scal_ss, scal_sr, scal_rn, scal_rb, scal_ri, scal_rs, scal_rr, decide_true, decide_false, List.map_cons, List.map_nil, List.set_cons_zero, List.set_cons_succ, List.getElem?_cons_zero, List.getElem?_cons_succ, List.getElem?_nil, exists_eq_left, exists_eq_left', V.bl.injEq, V.int.injEq, V.str.injEq, V.ref.injEq, if_true, if_false, ite_true, ite_false, Bool.false_eq_true, eq_self, true_and, and_true, decide_eq_true_eq]
  refine ite2 (fun h2 => ?_) (fun _ => fin 0)
  exact ⟨_, _, _, _, rfl, rfl, hS, e1, ⟨by decide, by decide⟩, fin _⟩
theorem ok_law_pick {f0 : Addr} {fd0 : FuncData} (F : At K mg "_law_pick" "_law_pick" s_law_pick ["_law_tape_here", "_law_many"] f0 fd0) (B : Bt mg)   : Def P w K mg base "_law_pick" ["_law_tape_here", "_law_many"] 1 sp_law_pick := by
  refine okD F sc_law_pick (fun vs H Q E h => by obtain ⟨_, _, rfl, _⟩ := h; rfl) (fun cdv A outer s H vs Q E hr tk po h => ?_)
  have hu := hu_of hr
  have hu64 := hr.units
  have hc := (show (true : Bool) = true from rfl)
  have nd := sc_law_pick.nd
  refine ⟨_, (pss_cons (ps_if (pt_cmpR opGe (pe_ix (ixItem hu) (pn 0) pe_str (fun _ _ => rfl)) (pn 1) (nomark _)) (pss_cons (ps_set (i := 2) nd rfl (Or.inl rfl) (pe_op opMod (pe_callTy callInt (by rfl) B.int boot_int (pa_cons (pe_ix (ixItem hu) (pn 0) pe_str (fun _ _ => rfl)) pa_nil)) (pn 1)))
      (pss_cons (ps_asg (pe_op opDiv (pe_ix (ixItem hu) (pn 0) pe_str (fun _ _ => rfl)) (pn 1)) (pg_sub (pn 0) pe_str (setStore hu)))
      (pss_one (ps_ret (pn 2))))) pss_nil)
      (pss_cons (ps_asg (pe_op opMod (pe_callTy callInt (by rfl) B.int boot_int (pa_cons (pe_op opAdd (pe_op opMul (pe_ix (ixItem hu) (pn 0) pe_str (fun _ _ => rfl)) pe_int) pe_int) pa_nil)) pe_int) (pg_sub (pn 0) pe_str (setStore hu)))
      (pss_cons (ps_set (i := 3) nd rfl (Or.inl rfl) (pe_op opMod (pe_callTy callInt (by rfl) B.int boot_int (pa_cons (pe_op opPow (pe_ix (ixItem hu) (pn 0) pe_str (fun _ _ => rfl)) pe_int) pa_nil)) pe_int))
      (pss_one (ps_ret (pe_op opMod (pe_callTy callInt (by rfl) B.int boot_int (pa_cons (pe_op opDiv (pe_op opMod (pe_callTy callInt (by rfl) B.int boot_int (pa_cons (pe_op opPow (pn 3) pe_int) pa_nil)) pe_int) pe_int) pa_nil)) (pn 1))))))), ?_⟩
  clear hu hu64 hc nd tk po hr B
  obtain ⟨t, n, rfl, ⟨d, m, hT, hm0, hm1⟩, ⟨hn0, hn1⟩, k⟩ := h
  have hR := rdo_of hT (fun _ _ z => nomatch z)
  rw [show L2.start _ _ = [some (.ref t), some (.int n), none, none] from rfl]
  refine sq fun N hN => ?_
  simp only [tSeq, tIfS, tTest, tOp, tV, tC, tAsg, gName, gSub, tRet, tRetN, tCB, tCons, tNil, tDrop, tNext, tAnd, tOr, tNot, tAndV, tOrV, tNotV, tIf, tTru, tUn, tCallS, WE, tTup, tLst, tSl, tPart, tNoPart, tPar, tChain, tBM, tBM0, tM0, tM1, gTup, gCons, gNil, tInC, gC, gN, tCallK, tCst, tRevL, ok_str, ok_int, ok_bool, ok_tuple, ok_list, ok_dict, sub_str, sub_tup, sub_lst, sub_bool, sub_int, sub_dict, Bool.not_true, Bool.not_false, kisS_none, kisS_bool, kisS_int, kisS_str, kisS_list, kisS_tuple, kisS_dict, kisT_none, kisT_bool, kisT_int, kisT_str, kisT_list, kisT_tuple, kisT_dict, kisL_none, kisL_bool, kisL_int, kisL_str, kisL_list, kisL_tuple, kisL_dict, kisB_none, kisB_bool, kisB_int, kisB_str, kisB_list, kisB_tuple, kisB_dict, kisI_none, kisI_bool, kisI_int, kisI_str, kisI_list, kisI_tuple, kisI_dict, kisIB_none, kisIB_bool, kisIB_int, kisIB_str, kisIB_list, kisIB_tuple, kisIB_dict, kisD_none, kisD_bool, kisD_int, kisD_str, kisD_list, kisD_tuple, kisD_dict, rEqU, rNeU, rAdd_1, rAdd_2, rAdd_3, rAdd_4, rSub_1, rMul_1, rMul_2, rMul_3, rDiv_1, rMod_1, rPow_1, rNeg_1, rLt_1, rLe_1, rLe_2, rGt_1, rGe_1, rIs_1, rIs_2, rIsNot_1, rIsNot_2, rMem_1, rItem_1, rItem_2, rStore_1, rLen_1, rLen_2, rInt_1, rInt_2, rMax_1, rMin_1, rList_1, rTuple_1, rAbs_1, rIsi_1, rSlice_1, rSlice_2, mAppend_1, mExtend_1, mPop_1, mPop_2, mInsert_1, mUpper_1, rInT_1, eqR_rr, eqR_rs, eqR_ri, eqR_rb, eqR_rn, eqR_sr, eqR_ir, eqR_br, eqR_nr, isCol_l, isCol_t, isCol_d, isSeq_l, isSeq_t, iAny, wipe, tYes, List.isEmpty_nil, List.isEmpty_cons, truN_non, truN_bl, truN_int, tyN_non, tyN_bl, tyN_int, tyN_str, keyOf, scal_nn, scal_nb, scal_ni, scal_ns, scal_nr, scal_bn, scal_bb, scal_bs, scal_br, scal_in, scal_ii, scal_is, scal_ir, scal_sn, scal_sb, scal_si, scal_ss, scal_sr, scal_rn, scal_rb, scal_ri, scal_rs, scal_rr, decide_true, decide_false, List.map_cons, List.map_nil, List.set_cons_zero, List.set_cons_succ, List.getElem?_cons_zero, List.getElem?_cons_succ, List.getElem?_nil, exists_eq_left, exists_eq_left', V.bl.injEq, V.int.injEq, V.str.injEq, V.ref.injEq, if_true, if_false, ite_true, ite_false, Bool.false_eq_true, eq_self, true_and, and_true, decide_eq_true_eq, hR, hT, tape_d, tape_pd, tape_len]
  refine ite2 (fun hd => ⟨hn0, ⟨hn0, by omega⟩, two_lt_line (by decide), ?_⟩) fun hd => ?_
  · exact k _ _ (Int.emod_nonneg _ (by omega)) (Int.emod_lt_of_pos _ hn0) (fun b hb => upd_ne hb) ⟨_, m, upd_same, hm0, hm1⟩
  refine hN _ _ ?_; clear hN N
  refine sq fun N hN => ?_
  simp only [tSeq, tIfS, tTest, tOp, tV, tC, tAsg, gName, gSub, tRet, tRetN, tCB, tCons, tNil, tDrop, tNext, tAnd, tOr, tNot, tAndV, tOrV, tNotV, tIf, tTru, tUn, tCallS, WE, tTup, tLst, tSl, tPart, tNoPart, tPar, tChain, tBM, tBM0, tM0, tM1, gTup, gCons, gNil, tInC, gC, gN, tCallK, tCst, tRevL, ok_str, ok_int, ok_bool, ok_tuple, ok_list, ok_dict, sub_str, sub_tup, sub_lst, sub_bool, sub_int, sub_dict, Bool.not_true, Bool.not_false, kisS_none, kisS_bool, kisS_int, kisS_str, kisS_list, kisS_tuple, kisS_dict, kisT_none, kisT_bool, kisT_int, kisT_str, kisT_list, kisT_tuple, kisT_dict, kisL_none, kisL_bool, kisL_int, kisL_str, kisL_list, kisL_tuple, kisL_dict, kisB_none, kisB_bool, kisB_int, kisB_str, kisB_list, kisB_tuple, kisB_dict, kisI_none, kisI_bool, kisI_int, kisI_str, kisI_list, kisI_tuple, kisI_dict, kisIB_none, kisIB_bool, kisIB_int, kisIB_str, kisIB_list, kisIB_tuple, kisIB_dict, kisD_none, kisD_bool, kisD_int, kisD_str, kisD_list, kisD_tuple, kisD_dict, rEqU, rNeU, rAdd_1, rAdd_2, rAdd_3, rAdd_4, rSub_1, rMul_1, rMul_2, rMul_3, rDiv_1, rMod_1, rPow_1, rNeg_1, rLt_1, rLe_1, rLe_2, rGt_1, rGe_1, rIs_1, rIs_2, rIsNot_1, rIsNot_2, rMem_1, rItem_1, rItem_2, rStore_1, rLen_1, rLen_2, rInt_1, rInt_2, rMax_1, rMin_1, rList_1, rTuple_1, rAbs_1, rIsi_1, rSlice_1, rSlice_2, mAppend_1, mExtend_1, mPop_1, mPop_2, mInsert_1, mUpper_1, rInT_1, eqR_rr, eqR_rs, eqR_ri, eqR_rb, eqR_rn, eqR_sr, eqR_ir, eqR_br, eqR_nr, isCol_l, isCol_t, isCol_d, isSeq_l, isSeq_t, iAny, wipe, tYes, List.isEmpty_nil, List.isEmpty_cons, truN_non, truN_bl, truN_int, tyN_non, tyN_bl, tyN_int, tyN_str, keyOf, scal_nn, scal_nb, scal_ni, scal_ns, scal_nr, scal_bn, scal_bb, scal_bs, scal_br, scal_in, scal_ii, scal_is, scal_ir, scal_sn, scal_sb, scal_si, scal_ss, scal_sr, scal_rn, scal_rb, scal_ri, scal_rs, scal_rr, decide_true, decide_false, List.map_cons, List.map_nil, List.set_cons_zero, List.set_cons_succ, List.getElem?_cons_zero, List.getElem?_cons_succ, List.getElem?_nil, exists_eq_left, exists_eq_left', V.bl.injEq, V.int.injEq, V.str.injEq, V.ref.injEq, if_true, if_false, ite_true, ite_false, Bool.false_eq_true, eq_self, true_and, and_true, decide_eq_true_eq, hR, hT, tape_m, tape_pm, tape_len]
  refine ⟨mul_ok (by omega), by decide, two_lt_line (by decide), ?_⟩
  have h0 : 0 ≤ (m * 40014 + 1017) % 2147483563 := Int.emod_nonneg _ (by decide)
  have h1 : (m * 40014 + 1017) % 2147483563 < 2147483563 := Int.emod_lt_of_pos _ (by decide)
  generalize (m * 40014 + 1017) % 2147483563 = m1 at h0 h1 ⊢
  refine hN _ _ ?_; clear hN N
  have hT1 : upd H t (.dK (tapeK d m1)) t = some (.dK (tapeK d m1)) := upd_same
  have hf : ∀ b, b ≠ t → upd H t (.dK (tapeK d m1)) b = H b := fun b hb => upd_ne hb
  generalize upd H t (.dK (tapeK d m1)) = H1 at hT1 hf ⊢
  have hR1 := rdo_of hT1 (fun _ _ z => nomatch z)
  refine sq fun N hN => ?_
  simp only [tSeq, tIfS, tTest, tOp, tV, tC, tAsg, gName, gSub, tRet, tRetN, tCB, tCons, tNil, tDrop, tNext, tAnd, tOr, tNot, tAndV, tOrV, tNotV, tIf, tTru, tUn, tCallS, WE, tTup, tLst, tSl, tPart, tNoPart, tPar, tChain, tBM, tBM0, tM0, tM1, gTup, gCons, gNil, tInC, gC, gN, tCallK, tCst, tRevL, ok_str, ok_int, ok_bool, ok_tuple, ok_list, ok_dict, sub_str, sub_tup, sub_lst, sub_bool, sub_int, sub_dict, Bool.not_true, Bool.not_false, kisS_none, kisS_bool, kisS_int, kisS_str, kisS_list, kisS_tuple, kisS_dict, kisT_none, kisT_bool, kisT_int, kisT_str, kisT_list, kisT_tuple, kisT_dict, kisL_none, kisL_bool, kisL_int, kisL_str, kisL_list, kisL_tuple, kisL_dict, kisB_none, kisB_bool, kisB_int, kisB_str, kisB_list, kisB_tuple, kisB_dict, kisI_none, kisI_bool, kisI_int, kisI_str, kisI_list, kisI_tuple, kisI_dict, kisIB_none, kisIB_bool, kisIB_int, kisIB_str, kisIB_list, kisIB_tuple, kisIB_dict, kisD_none, kisD_bool, kisD_int, kisD_str, kisD_list, kisD_tuple, kisD_dict, rEqU, rNeU, rAdd_1, rAdd_2, rAdd_3, rAdd_4, rSub_1, rMul_1, rMul_2, rMul_3, rDiv_1, rMod_1, rPow_1, rNeg_1, rLt_1, rLe_1, rLe_2, rGt_1, rGe_1, rIs_1, rIs_2, rIsNot_1, rIsNot_2, rMem_1, rItem_1, rItem_2, rStore_1, rLen_1, rLen_2, rInt_1, rInt_2, rMax_1, rMin_1, rList_1, rTuple_1, rAbs_1, rIsi_1, rSlice_1, rSlice_2, mAppend_1, mExtend_1, mPop_1, mPop_2, mInsert_1, mUpper_1, rInT_1, eqR_rr, eqR_rs, eqR_ri, eqR_rb, eqR_rn, eqR_sr, eqR_ir, eqR_br, eqR_nr, isCol_l, isCol_t, isCol_d, isSeq_l, isSeq_t, iAny, wipe, tYes, List.isEmpty_nil, List.isEmpty_cons, truN_non, truN_bl, truN_int, tyN_non, tyN_bl, tyN_int, tyN_str, keyOf, scal_nn, scal_nb, scal_ni, scal_ns, scal_nr, scal_bn, scal_bb, scal_bs, scal_br, scal_in, scal_ii, scal_is, scal_ir, scal_sn, scal_sb, scal_si, scal_ss, scal_sr, scal_rn, scal_rb, scal_ri, scal_rs, scal_rr, decide_true, decide_false, List.map_cons, List.map_nil, List.set_cons_zero, List.set_cons_succ, List.getElem?_cons_zero, List.getElem?_cons_succ, List.getElem?_nil, exists_eq_left, exists_eq_left', V.bl.injEq, V.int.injEq, V.str.injEq, V.ref.injEq, if_true, if_false, ite_true, ite_false, Bool.false_eq_true, eq_self, true_and, and_true, decide_eq_true_eq, hR1, hT1, tape_m]
  have hb := bits_small (i := m1) (by omega)
  refine ⟨⟨by decide, by omega⟩, by decide, ?_⟩
  have g0 : 0 ≤ m1 ^ (2 : Int).toNat % 2147483399 := Int.emod_nonneg _ (by decide)
  have g1 : m1 ^ (2 : Int).toNat % 2147483399 < 2147483399 := Int.emod_lt_of_pos _ (by decide)
  generalize m1 ^ (2 : Int).toNat % 2147483399 = o at g0 g1 ⊢
  refine hN _ _ ?_; clear hN N
  simp only [tSeq, tIfS, tTest, tOp, tV, tC, tAsg, gName, gSub, tRet, tRetN, tCB, tCons, tNil, tDrop, tNext, tAnd, tOr, tNot, tAndV, tOrV, tNotV, tIf, tTru, tUn, tCallS, WE, tTup, tLst, tSl, tPart, tNoPart, tPar, tChain, tBM, tBM0, tM0, tM1, gTup, gCons, gNil, tInC, gC, gN, tCallK, tCst, tRevL, ok_str, ok_int, ok_bool, ok_tuple, ok_list, ok_dict, sub_str, sub_tup, sub_lst, sub_bool, sub_int, sub_dict, Bool.not_true, Bool.not_false, kisS_none, kisS_bool, kisS_int, kisS_str, kisS_list, kisS_tuple, kisS_dict, kisT_none, kisT_bool, kisT_int, kisT_str, kisT_list, kisT_tuple, kisT_dict, kisL_none, kisL_bool, kisL_int, kisL_str, kisL_list, kisL_tuple, kisL_dict, kisB_none, kisB_bool, kisB_int, kisB_str, kisB_list, kisB_tuple, kisB_dict, kisI_none, kisI_bool, kisI_int, kisI_str, kisI_list, kisI_tuple, kisI_dict, kisIB_none, kisIB_bool, kisIB_int, kisIB_str, kisIB_list, kisIB_tuple, kisIB_dict, kisD_none, kisD_bool, kisD_int, kisD_str, kisD_list, kisD_tuple, kisD_dict, rEqU, rNeU, rAdd_1, rAdd_2, rAdd_3, rAdd_4, rSub_1, rMul_1, rMul_2, rMul_3, rDiv_1, rMod_1, rPow_1, rNeg_1, rLt_1, rLe_1, rLe_2, rGt_1, rGe_1, rIs_1, rIs_2, rIsNot_1, rIsNot_2, rMem_1, rItem_1, rItem_2, rStore_1, rLen_1, rLen_2, rInt_1, rInt_2, rMax_1, rMin_1, rList_1, rTuple_1, rAbs_1, rIsi_1, rSlice_1, rSlice_2, mAppend_1, mExtend_1, mPop_1, mPop_2, mInsert_1, mUpper_1, rInT_1, eqR_rr, eqR_rs, eqR_ri, eqR_rb, eqR_rn, eqR_sr, eqR_ir, eqR_br, eqR_nr, isCol_l, isCol_t, isCol_d, isSeq_l, isSeq_t, iAny, wipe, tYes, List.isEmpty_nil, List.isEmpty_cons, truN_non, truN_bl, truN_int, tyN_non, tyN_bl, tyN_int, tyN_str, keyOf, scal_nn, scal_nb, scal_ni, scal_ns, scal_nr, scal_bn, scal_bb, scal_bs, scal_br, scal_in, scal_ii, scal_is, scal_ir, scal_sn, scal_sb, scal_si, scal_ss, scal_sr, scal_rn, scal_rb, scal_ri, scal_rs, scal_rr, decide_true, decide_false, List.map_cons, List.map_nil, List.set_cons_zero, List.set_cons_succ, List.getElem?_cons_zero, List.getElem?_cons_succ, List.getElem?_nil, exists_eq_left, exists_eq_left', V.bl.injEq, V.int.injEq, V.str.injEq, V.ref.injEq, if_true, if_false, ite_true, ite_false, Bool.false_eq_true, eq_self, true_and, and_true, decide_eq_true_eq]
  have hb2 := bits_small (i := o) (by omega)
  refine ⟨⟨by decide, by omega⟩, by decide, ⟨by decide, by decide⟩, hn0, ?_⟩
  exact k _ _ (Int.emod_nonneg _ (by omega)) (Int.emod_lt_of_pos _ hn0) hf ⟨_, m1, hT1, h0, by omega⟩
theorem ok_law_one_of {f0 : Addr} {fd0 : FuncData} (F : At K mg "_law_one_of" "_law_one_of" s_law_one_of ["_law_tape_here", "_law_items"] f0 fd0) (B : Bt mg)  (D_law_pick : Def P w K mg base "_law_pick" ["_law_tape_here", "_law_many"] 1 sp_law_pick) : Def P w K mg base "_law_one_of" ["_law_tape_here", "_law_items"] 2 sp_law_one_of := by
  refine okD F sc_law_one_of (fun vs H Q E h => by rcases h with ⟨_, _, _, rfl, _⟩ | ⟨_, _, rfl, _⟩ <;> rfl) (fun cdv A outer s H vs Q E hr tk po h => ?_)
  have hu := hu_of hr
  have hu64 := hr.units
  have hc := (show (true : Bool) = true from rfl)
  have nd := sc_law_one_of.nd
  refine ⟨_, (pss_one (ps_ret (pe_ix (ixItem hu) (pn 1) (pe_fn D_law_pick (hr.mono (by decide)) tk (pa_cons (pn 0) (pa_cons (pe_callB callLen (by rfl) B.len bt_len (pa_cons (pn 1) pa_nil)) pa_nil))) (fun _ _ => rfl)))), ?_⟩
  clear hu hu64 hc nd tk po hr B D_law_pick
  rcases h with ⟨t, l, xs, rfl, hT, hl, ⟨h0, h1⟩, k⟩ | ⟨t, z, rfl, hT, ⟨h0, h1⟩, k⟩
  rotate_left
  · rw [show L2.start _ _ = [some (.ref t), some (.str z)] from rfl]
    simp only [tSeq, tIfS, tTest, tOp, tV, tC, tAsg, gName, gSub, tRet, tRetN, tCB, tCons, tNil, tDrop, tNext, tAnd, tOr, tNot, tAndV, tOrV, tNotV, tIf, tTru, tUn, tCallS, WE, tTup, tLst, tSl, tPart, tNoPart, tPar, tChain, tBM, tBM0, tM0, tM1, gTup, gCons, gNil, tInC, gC, gN, tCallK, tCst, tRevL, ok_str, ok_int, ok_bool, ok_tuple, ok_list, ok_dict, sub_str, sub_tup, sub_lst, sub_bool, sub_int, sub_dict, Bool.not_true, Bool.not_false, kisS_none, kisS_bool, kisS_int, kisS_str, kisS_list, kisS_tuple, kisS_dict, kisT_none, kisT_bool, kisT_int, kisT_str, kisT_list, kisT_tuple, kisT_dict, kisL_none, kisL_bool, kisL_int, kisL_str, kisL_list, kisL_tuple, kisL_dict, kisB_none, kisB_bool, kisB_int, kisB_str, kisB_list, kisB_tuple, kisB_dict, kisI_none, kisI_bool, kisI_int, kisI_str, kisI_list, kisI_tuple, kisI_dict, kisIB_none, kisIB_bool, kisIB_int, kisIB_str, kisIB_list, kisIB_tuple, kisIB_dict, kisD_none, kisD_bool, kisD_int, kisD_str, kisD_list, kisD_tuple, kisD_dict, rEqU, rNeU, rAdd_1, rAdd_2, rAdd_3, rAdd_4, rSub_1, rMul_1, rMul_2, rMul_3, rDiv_1, rMod_1, rPow_1, rNeg_1, rLt_1, rLe_1, rLe_2, rGt_1, rGe_1, rIs_1, rIs_2, rIsNot_1, rIsNot_2, rMem_1, rItem_1, rItem_2, rStore_1, rLen_1, rLen_2, rInt_1, rInt_2, rMax_1, rMin_1, rList_1, rTuple_1, rAbs_1, rIsi_1, rSlice_1, rSlice_2, mAppend_1, mExtend_1, mPop_1, mPop_2, mInsert_1, mUpper_1, rInT_1, eqR_rr, eqR_rs, eqR_ri, eqR_rb, eqR_rn, eqR_sr, eqR_ir, eqR_br, eqR_nr, isCol_l, isCol_t, isCol_d, isSeq_l, isSeq_t, iAny, wipe, tYes, List.isEmpty_nil, List.isEmpty_cons, truN_non, truN_bl, truN_int, tyN_non, tyN_bl, tyN_int, tyN_str, keyOf, scal_nn, scal_nb, scal_ni, scal_ns, scal_nr, scal_bn, scal_bb, scal_bs, scal_br, scal_in, scal_ii, scal_is, scal_ir, scal_sn, scal_sb, scal_si, scal_ss, scal_sr, scal_rn, scal_rb, scal_ri, scal_rs, scal_rr, decide_true, decide_false, List.map_cons, List.map_nil, List.set_cons_zero, List.set_cons_succ, List.getElem?_cons_zero, List.getElem?_cons_succ, List.getElem?_nil, exists_eq_left, exists_eq_left', V.bl.injEq, V.int.injEq, V.str.injEq, V.ref.injEq, if_true, if_false, ite_true, ite_false, Bool.false_eq_true, eq_self, true_and, and_true, decide_eq_true_eq]
    refine ⟨Nat.le_trans h1 (by decide), t, _, rfl, hT, ⟨by omega, by omega⟩, fun r H' hr0 hr1 fr hT' => ?_⟩
    obtain ⟨j, rfl⟩ := Int.eq_ofNat_of_zero_le hr0
    have hj : j < z.cps.toList.length := by
      rw [Array.length_toList]
      show j < z.length
      omega
    have ea : atI z.cps.toList (j : Int) = some z.cps.toList[j] := atI_nat (List.getElem?_eq_getElem hj)
    simp only [tSeq, tIfS, tTest, tOp, tV, tC, tAsg, gName, gSub, tRet, tRetN, tCB, tCons, tNil, tDrop, tNext, tAnd, tOr, tNot, tAndV, tOrV, tNotV, tIf, tTru, tUn, tCallS, WE, tTup, tLst, tSl, tPart, tNoPart, tPar, tChain, tBM, tBM0, tM0, tM1, gTup, gCons, gNil, tInC, gC, gN, tCallK, tCst, tRevL, ok_str, ok_int, ok_bool, ok_tuple, ok_list, ok_dict, sub_str, sub_tup, sub_lst, sub_bool, sub_int, sub_dict, Bool.not_true, Bool.not_false, kisS_none, kisS_bool, kisS_int, kisS_str, kisS_list, kisS_tuple, kisS_dict, kisT_none, kisT_bool, kisT_int, kisT_str, kisT_list, kisT_tuple, kisT_dict, kisL_none, kisL_bool, kisL_int, kisL_str, kisL_list, kisL_tuple, kisL_dict, kisB_none, kisB_bool, kisB_int, kisB_str, kisB_list, kisB_tuple, kisB_dict, kisI_none, kisI_bool, kisI_int, kisI_str, kisI_list, kisI_tuple, kisI_dict, kisIB_none, kisIB_bool, kisIB_int, kisIB_str, kisIB_list, kisIB_tuple, kisIB_dict, kisD_none, kisD_bool, kisD_int, kisD_str, kisD_list, kisD_tuple, kisD_dict, rEqU, rNeU, rAdd_1, rAdd_2, rAdd_3, rAdd_4, rSub_1, rMul_1, rMul_2, rMul_3, rDiv_1, rMod_1, rPow_1, rNeg_1, rLt_1, rLe_1, rLe_2, rGt_1, rGe_1, rIs_1, rIs_2, rIsNot_1, rIsNot_2, rMem_1, rItem_1, rItem_2, rStore_1, rLen_1, rLen_2, rInt_1, rInt_2, rMax_1, rMin_1, rList_1, rTuple_1, rAbs_1, rIsi_1, rSlice_1, rSlice_2, mAppend_1, mExtend_1, mPop_1, mPop_2, mInsert_1, mUpper_1, rInT_1, eqR_rr, eqR_rs, eqR_ri, eqR_rb, eqR_rn, eqR_sr, eqR_ir, eqR_br, eqR_nr, isCol_l, isCol_t, isCol_d, isSeq_l, isSeq_t, iAny, wipe, tYes, List.isEmpty_nil, List.isEmpty_cons, truN_non, truN_bl, truN_int, tyN_non, tyN_bl, tyN_int, tyN_str, keyOf, scal_nn, scal_nb, scal_ni, scal_ns, scal_nr, scal_bn, scal_bb, scal_bs, scal_br, scal_in, scal_ii, scal_is, scal_ir, scal_sn, scal_sb, scal_si, scal_ss, scal_sr, scal_rn, scal_rb, scal_ri, scal_rs, scal_rr, decide_true, decide_false, List.map_cons, List.map_nil, List.set_cons_zero, List.set_cons_succ, List.getElem?_cons_zero, List.getElem?_cons_succ, List.getElem?_nil, exists_eq_left, exists_eq_left', V.bl.injEq, V.int.injEq, V.str.injEq, V.ref.injEq, if_true, if_false, ite_true, ite_false, Bool.false_eq_true, eq_self, true_and, and_true, decide_eq_true_eq, ea]
    exact ⟨Nat.le_trans h1 (by decide), k _ H' (List.getElem_mem hj) fr hT'⟩
  rw [show L2.start _ _ = [some (.ref t), some (.ref l)] from rfl]
  have hne : l ≠ t := by
    obtain ⟨d, m, e, _⟩ := hT
    rintro rfl
    have e' := rdo_of e (fun _ _ z => nomatch z)
    rcases hl with z | z <;> rw [e'] at z <;> cases z
  rcases hl with e | e
  all_goals
    simp only [tSeq, tIfS, tTest, tOp, tV, tC, tAsg, gName, gSub, tRet, tRetN, tCB, tCons, tNil, tDrop, tNext, tAnd, tOr, tNot, tAndV, tOrV, tNotV, tIf, tTru, tUn, tCallS, WE, tTup, tLst, tSl, tPart, tNoPart, tPar, tChain, tBM, tBM0, tM0, tM1, gTup, gCons, gNil, tInC, gC, gN, tCallK, tCst, tRevL, ok_str, ok_int, ok_bool, ok_tuple, ok_list, ok_dict, sub_str, sub_tup, sub_lst, sub_bool, sub_int, sub_dict, Bool.not_true, Bool.not_false, kisS_none, kisS_bool, kisS_int, kisS_str, kisS_list, kisS_tuple, kisS_dict, kisT_none, kisT_bool, kisT_int, kisT_str, kisT_list, kisT_tuple, kisT_dict, kisL_none, kisL_bool, kisL_int, kisL_str, kisL_list, kisL_tuple, kisL_dict, kisB_none, kisB_bool, kisB_int, kisB_str, kisB_list, kisB_tuple, kisB_dict, kisI_none, kisI_bool, kisI_int, kisI_str, kisI_list, kisI_tuple, kisI_dict, kisIB_none, kisIB_bool, kisIB_int, kisIB_str, kisIB_list, kisIB_tuple, kisIB_dict, kisD_none, kisD_bool, kisD_int, kisD_str, kisD_list, kisD_tuple, kisD_dict, rEqU, rNeU, rAdd_1, rAdd_2, rAdd_3, rAdd_4, rSub_1, rMul_1, rMul_2, rMul_3, rDiv_1, rMod_1, rPow_1, rNeg_1, rLt_1, rLe_1, rLe_2, rGt_1, rGe_1, rIs_1, rIs_2, rIsNot_1, rIsNot_2, rMem_1, rItem_1, rItem_2, rStore_1, rLen_1, rLen_2, rInt_1, rInt_2, rMax_1, rMin_1, rList_1, rTuple_1, rAbs_1, rIsi_1, rSlice_1, rSlice_2, mAppend_1, mExtend_1, mPop_1, mPop_2, mInsert_1, mUpper_1, rInT_1, eqR_rr, eqR_rs, eqR_ri, eqR_rb, eqR_rn, eqR_sr, eqR_ir, eqR_br, eqR_nr, isCol_l, isCol_t, isCol_d, isSeq_l, isSeq_t, iAny, wipe, tYes, List.isEmpty_nil, List.isEmpty_cons, truN_non, truN_bl, truN_int, tyN_non, tyN_bl, tyN_int, tyN_str, keyOf, scal_nn, scal_nb, scal_ni, scal_ns, scal_nr, scal_bn, scal_bb, scal_bs, scal_br, scal_in, scal_ii, scal_is, scal_ir, scal_sn, scal_sb, scal_si, scal_ss, scal_sr, scal_rn, scal_rb, scal_ri, scal_rs, scal_rr, decide_true, decide_false, List.map_cons, List.map_nil, List.set_cons_zero, List.set_cons_succ, List.getElem?_cons_zero, List.getElem?_cons_succ, List.getElem?_nil, exists_eq_left, exists_eq_left', V.bl.injEq, V.int.injEq, V.str.injEq, V.ref.injEq, if_true, if_false, ite_true, ite_false, Bool.false_eq_true, eq_self, true_and, and_true, decide_eq_true_eq, e]
    refine ⟨t, _, rfl, hT, ⟨by omega, by omega⟩, fun r H' hr0 hr1 fr hT' => ?_⟩
    obtain ⟨j, rfl⟩ := Int.eq_ofNat_of_zero_le hr0
    have hj : j < xs.length := by omega
    have el : rdo H' l = rdo H l := by unfold rdo; rw [fr l hne]
    have ea : atI xs (j : Int) = some xs[j] := atI_nat (List.getElem?_eq_getElem hj)
    simp only [el, e, ea]
    exact k _ H' (List.getElem_mem hj) fr hT'

theorem ok_law_any {f0 : Addr} {fd0 : FuncData} (F : At K mg "_law_any" "_law_any" s_law_any ["_law_tape_here"] f0 fd0) (B : Bt mg)  (D_law_one_of : Def P w K mg base "_law_one_of" ["_law_tape_here", "_law_items"] 2 sp_law_one_of) : Def P w K mg base "_law_any" ["_law_tape_here"] 3 sp_law_any := by
  refine okD F sc_law_any (fun vs H Q E h => by obtain ⟨_, rfl, _⟩ := h; rfl) (fun cdv A outer s H vs Q E hr tk po h => ?_)
  have hu := hu_of hr
  have hu64 := hr.units
  have hc := (show (true : Bool) = true from rfl)
  have nd := sc_law_any.nd
  refine ⟨_, (pss_cons (ps_set (i := 1) nd rfl (Or.inl rfl) (li_lst (la_cons li_non (la_cons li_bl (la_cons li_bl (la_cons li_int (la_cons li_int (la_cons li_int (la_cons li_int (la_cons (li_num (pe_op opSub pe_int pe_int) (fun _ _ _ q => q)) (la_cons (li_num (pe_op opPow pe_int pe_int) (fun _ _ _ q => ⟨⟨by decide, by decide⟩, q⟩)) (la_cons li_str (la_cons li_str (la_cons li_str (la_cons li_str (la_cons li_str (la_cons li_str (la_cons li_str la_nil))))))))))))))))))
      (pss_cons (ps_set (i := 1) nd rfl (Or.inl rfl) (pe_op opAdd (pn 1) (li_lst (la_cons li_str (la_cons (li_tup la_nil) (la_cons (li_lst la_nil) (la_cons li_dict0 (la_cons (li_tup (la_cons li_int la_nil)) (la_cons (li_lst (la_cons li_int la_nil)) (la_cons (li_dict1 (kk := .inr "x") pe_str li_int) (la_cons (li_tup (la_cons li_int (la_cons li_str (la_cons li_str la_nil)))) (la_cons (li_tup (la_cons li_str la_nil)) (la_cons (li_lst (la_cons li_str la_nil)) (la_cons li_str la_nil))))))))))))))
      (pss_one (ps_ret (pe_fn D_law_one_of (hr.mono (by decide)) tk (pa_cons (pn 0) (pa_cons (pn 1) pa_nil))))))), ?_⟩
  clear hu hu64 hc nd tk po hr B D_law_one_of
  obtain ⟨t, rfl, hT, k⟩ := h
  rw [show L2.start _ _ = [some (.ref t), none] from rfl]
  refine sq fun N hN => ?_
  simp only [tSeq, tIfS, tTest, tOp, tV, tC, tAsg, gName, gSub, tRet, tRetN, tCB, tCons, tNil, tDrop, tNext, tAnd, tOr, tNot, tAndV, tOrV, tNotV, tIf, tTru, tUn, tCallS, WE, tTup, tLst, tSl, tPart, tNoPart, tPar, tChain, tBM, tBM0, tM0, tM1, gTup, gCons, gNil, tInC, gC, gN, tCallK, tCst, tRevL, ok_str, ok_int, ok_bool, ok_tuple, ok_list, ok_dict, sub_str, sub_tup, sub_lst, sub_bool, sub_int, sub_dict, Bool.not_true, Bool.not_false, kisS_none, kisS_bool, kisS_int, kisS_str, kisS_list, kisS_tuple, kisS_dict, kisT_none, kisT_bool, kisT_int, kisT_str, kisT_list, kisT_tuple, kisT_dict, kisL_none, kisL_bool, kisL_int, kisL_str, kisL_list, kisL_tuple, kisL_dict, kisB_none, kisB_bool, kisB_int, kisB_str, kisB_list, kisB_tuple, kisB_dict, kisI_none, kisI_bool, kisI_int, kisI_str, kisI_list, kisI_tuple, kisI_dict, kisIB_none, kisIB_bool, kisIB_int, kisIB_str, kisIB_list, kisIB_tuple, kisIB_dict, kisD_none, kisD_bool, kisD_int, kisD_str, kisD_list, kisD_tuple, kisD_dict, rEqU, rNeU, rAdd_1, rAdd_2, rAdd_3, rAdd_4, rSub_1, rMul_1, rMul_2, rMul_3, rDiv_1, rMod_1, rPow_1, rNeg_1, rLt_1, rLe_1, rLe_2, rGt_1, rGe_1, rIs_1, rIs_2, rIsNot_1, rIsNot_2, rMem_1, rItem_1, rItem_2, rStore_1, rLen_1, rLen_2, rInt_1, rInt_2, rMax_1, rMin_1, rList_1, rTuple_1, rAbs_1, rIsi_1, rSlice_1, rSlice_2, mAppend_1, mExtend_1, mPop_1, mPop_2, mInsert_1, mUpper_1, rInT_1, eqR_rr, eqR_rs, eqR_ri, eqR_rb, eqR_rn, eqR_sr, eqR_ir, eqR_br, eqR_nr, isCol_l, isCol_t, isCol_d, isSeq_l, isSeq_t, iAny, wipe, tYes, List.isEmpty_nil, List.isEmpty_cons, truN_non, truN_bl, truN_int, tyN_non, tyN_bl, tyN_int, tyN_str, keyOf, scal_nn, scal_nb, scal_ni, scal_ns, scal_nr, scal_bn, scal_bb, scal_bs, scal_br, scal_in, scal_ii, scal_is, scal_ir, scal_sn, scal_sb, scal_si, scal_ss, scal_sr, scal_rn, scal_rb, scal_ri, scal_rs, scal_rr, decide_true, decide_false, List.map_cons, List.map_nil, List.set_cons_zero, List.set_cons_succ, List.getElem?_cons_zero, List.getElem?_cons_succ, List.getElem?_nil, exists_eq_left, exists_eq_left', V.bl.injEq, V.int.injEq, V.str.injEq, V.ref.injEq, if_true, if_false, ite_true, ite_false, Bool.false_eq_true, eq_self, true_and, and_true, decide_eq_true_eq]
  intro v1 H1 e1 d1
  cases d1 with
  | @lst a1 xs1 ds1 r1 A1 =>
  refine hN _ _ ?_; clear hN N
  refine sq fun N hN => ?_
  simp only [tSeq, tIfS, tTest, tOp, tV, tC, tAsg, gName, gSub, tRet, tRetN, tCB, tCons, tNil, tDrop, tNext, tAnd, tOr, tNot, tAndV, tOrV, tNotV, tIf, tTru, tUn, tCallS, WE, tTup, tLst, tSl, tPart, tNoPart, tPar, tChain, tBM, tBM0, tM0, tM1, gTup, gCons, gNil, tInC, gC, gN, tCallK, tCst, tRevL, ok_str, ok_int, ok_bool, ok_tuple, ok_list, ok_dict, sub_str, sub_tup, sub_lst, sub_bool, sub_int, sub_dict, Bool.not_true, Bool.not_false, kisS_none, kisS_bool, kisS_int, kisS_str, kisS_list, kisS_tuple, kisS_dict, kisT_none, kisT_bool, kisT_int, kisT_str, kisT_list, kisT_tuple, kisT_dict, kisL_none, kisL_bool, kisL_int, kisL_str, kisL_list, kisL_tuple, kisL_dict, kisB_none, kisB_bool, kisB_int, kisB_str, kisB_list, kisB_tuple, kisB_dict, kisI_none, kisI_bool, kisI_int, kisI_str, kisI_list, kisI_tuple, kisI_dict, kisIB_none, kisIB_bool, kisIB_int, kisIB_str, kisIB_list, kisIB_tuple, kisIB_dict, kisD_none, kisD_bool, kisD_int, kisD_str, kisD_list, kisD_tuple, kisD_dict, rEqU, rNeU, rAdd_1, rAdd_2, rAdd_3, rAdd_4, rSub_1, rMul_1, rMul_2, rMul_3, rDiv_1, rMod_1, rPow_1, rNeg_1, rLt_1, rLe_1, rLe_2, rGt_1, rGe_1, rIs_1, rIs_2, rIsNot_1, rIsNot_2, rMem_1, rItem_1, rItem_2, rStore_1, rLen_1, rLen_2, rInt_1, rInt_2, rMax_1, rMin_1, rList_1, rTuple_1, rAbs_1, rIsi_1, rSlice_1, rSlice_2, mAppend_1, mExtend_1, mPop_1, mPop_2, mInsert_1, mUpper_1, rInT_1, eqR_rr, eqR_rs, eqR_ri, eqR_rb, eqR_rn, eqR_sr, eqR_ir, eqR_br, eqR_nr, isCol_l, isCol_t, isCol_d, isSeq_l, isSeq_t, iAny, wipe, tYes, List.isEmpty_nil, List.isEmpty_cons, truN_non, truN_bl, truN_int, tyN_non, tyN_bl, tyN_int, tyN_str, keyOf, scal_nn, scal_nb, scal_ni, scal_ns, scal_nr, scal_bn, scal_bb, scal_bs, scal_br, scal_in, scal_ii, scal_is, scal_ir, scal_sn, scal_sb, scal_si, scal_ss, scal_sr, scal_rn, scal_rb, scal_ri, scal_rs, scal_rr, decide_true, decide_false, List.map_cons, List.map_nil, List.set_cons_zero, List.set_cons_succ, List.getElem?_cons_zero, List.getElem?_cons_succ, List.getElem?_nil, exists_eq_left, exists_eq_left', V.bl.injEq, V.int.injEq, V.str.injEq, V.ref.injEq, if_true, if_false, ite_true, ite_false, Bool.false_eq_true, eq_self, true_and, and_true, decide_eq_true_eq]
  intro v2 H2 e2 d2
  cases d2 with
  | @lst a2 xs2 ds2 r2 A2 =>
  have g1 : H2 a1 = some (.lst xs1) := e2 _ _ (lst_new r1)
  have g2 : H2 a2 = some (.lst xs2) := lst_new r2
  have l1 := A1.length
  have l2 := A2.length
  have q1 : xs1.length = 16 := l1
  have q2 : xs2.length = 11 := l2
  simp only [tSeq, tIfS, tTest, tOp, tV, tC, tAsg, gName, gSub, tRet, tRetN, tCB, tCons, tNil, tDrop, tNext, tAnd, tOr, tNot, tAndV, tOrV, tNotV, tIf, tTru, tUn, tCallS, WE, tTup, tLst, tSl, tPart, tNoPart, tPar, tChain, tBM, tBM0, tM0, tM1, gTup, gCons, gNil, tInC, gC, gN, tCallK, tCst, tRevL, ok_str, ok_int, ok_bool, ok_tuple, ok_list, ok_dict, sub_str, sub_tup, sub_lst, sub_bool, sub_int, sub_dict, Bool.not_true, Bool.not_false, kisS_none, kisS_bool, kisS_int, kisS_str, kisS_list, kisS_tuple, kisS_dict, kisT_none, kisT_bool, kisT_int, kisT_str, kisT_list, kisT_tuple, kisT_dict, kisL_none, kisL_bool, kisL_int, kisL_str, kisL_list, kisL_tuple, kisL_dict, kisB_none, kisB_bool, kisB_int, kisB_str, kisB_list, kisB_tuple, kisB_dict, kisI_none, kisI_bool, kisI_int, kisI_str, kisI_list, kisI_tuple, kisI_dict, kisIB_none, kisIB_bool, kisIB_int, kisIB_str, kisIB_list, kisIB_tuple, kisIB_dict, kisD_none, kisD_bool, kisD_int, kisD_str, kisD_list, kisD_tuple, kisD_dict, rEqU, rNeU, rAdd_1, rAdd_2, rAdd_3, rAdd_4, rSub_1, rMul_1, rMul_2, rMul_3, rDiv_1, rMod_1, rPow_1, rNeg_1, rLt_1, rLe_1, rLe_2, rGt_1, rGe_1, rIs_1, rIs_2, rIsNot_1, rIsNot_2, rMem_1, rItem_1, rItem_2, rStore_1, rLen_1, rLen_2, rInt_1, rInt_2, rMax_1, rMin_1, rList_1, rTuple_1, rAbs_1, rIsi_1, rSlice_1, rSlice_2, mAppend_1, mExtend_1, mPop_1, mPop_2, mInsert_1, mUpper_1, rInT_1, eqR_rr, eqR_rs, eqR_ri, eqR_rb, eqR_rn, eqR_sr, eqR_ir, eqR_br, eqR_nr, isCol_l, isCol_t, isCol_d, isSeq_l, isSeq_t, iAny, wipe, tYes, List.isEmpty_nil, List.isEmpty_cons, truN_non, truN_bl, truN_int, tyN_non, tyN_bl, tyN_int, tyN_str, keyOf, scal_nn, scal_nb, scal_ni, scal_ns, scal_nr, scal_bn, scal_bb, scal_bs, scal_br, scal_in, scal_ii, scal_is, scal_ir, scal_sn, scal_sb, scal_si, scal_ss, scal_sr, scal_rn, scal_rb, scal_ri, scal_rs, scal_rr, decide_true, decide_false, List.map_cons, List.map_nil, List.set_cons_zero, List.set_cons_succ, List.getElem?_cons_zero, List.getElem?_cons_succ, List.getElem?_nil, exists_eq_left, exists_eq_left', V.bl.injEq, V.int.injEq, V.str.injEq, V.ref.injEq, if_true, if_false, ite_true, ite_false, Bool.false_eq_true, eq_self, true_and, and_true, decide_eq_true_eq, g1, g2]
  refine ⟨by rw [q1, q2]; decide, fun p hp => ?_⟩
  refine hN _ _ ?_; clear hN N
  simp only [tSeq, tIfS, tTest, tOp, tV, tC, tAsg, gName, gSub, tRet, tRetN, tCB, tCons, tNil, tDrop, tNext, tAnd, tOr, tNot, tAndV, tOrV, tNotV, tIf, tTru, tUn, tCallS, WE, tTup, tLst, tSl, tPart, tNoPart, tPar, tChain, tBM, tBM0, tM0, tM1, gTup, gCons, gNil, tInC, gC, gN, tCallK, tCst, tRevL, ok_str, ok_int, ok_bool, ok_tuple, ok_list, ok_dict, sub_str, sub_tup, sub_lst, sub_bool, sub_int, sub_dict, Bool.not_true, Bool.not_false, kisS_none, kisS_bool, kisS_int, kisS_str, kisS_list, kisS_tuple, kisS_dict, kisT_none, kisT_bool, kisT_int, kisT_str, kisT_list, kisT_tuple, kisT_dict, kisL_none, kisL_bool, kisL_int, kisL_str, kisL_list, kisL_tuple, kisL_dict, kisB_none, kisB_bool, kisB_int, kisB_str, kisB_list, kisB_tuple, kisB_dict, kisI_none, kisI_bool, kisI_int, kisI_str, kisI_list, kisI_tuple, kisI_dict, kisIB_none, kisIB_bool, kisIB_int, kisIB_str, kisIB_list, kisIB_tuple, kisIB_dict, kisD_none, kisD_bool, kisD_int, kisD_str, kisD_list, kisD_tuple, kisD_dict, rEqU, rNeU, rAdd_1, rAdd_2, rAdd_3, rAdd_4, rSub_1, rMul_1, rMul_2, rMul_3, rDiv_1, rMod_1, rPow_1, rNeg_1, rLt_1, rLe_1, rLe_2, rGt_1, rGe_1, rIs_1, rIs_2, rIsNot_1, rIsNot_2, rMem_1, rItem_1, rItem_2, rStore_1, rLen_1, rLen_2, rInt_1, rInt_2, rMax_1, rMin_1, rList_1, rTuple_1, rAbs_1, rIsi_1, rSlice_1, rSlice_2, mAppend_1, mExtend_1, mPop_1, mPop_2, mInsert_1, mUpper_1, rInT_1, eqR_rr, eqR_rs, eqR_ri, eqR_rb, eqR_rn, eqR_sr, eqR_ir, eqR_br, eqR_nr, isCol_l, isCol_t, isCol_d, isSeq_l, isSeq_t, iAny, wipe, tYes, List.isEmpty_nil, List.isEmpty_cons, truN_non, truN_bl, truN_int, tyN_non, tyN_bl, tyN_int, tyN_str, keyOf, scal_nn, scal_nb, scal_ni, scal_ns, scal_nr, scal_bn, scal_bb, scal_bs, scal_br, scal_in, scal_ii, scal_is, scal_ir, scal_sn, scal_sb, scal_si, scal_ss, scal_sr, scal_rn, scal_rb, scal_ri, scal_rs, scal_rr, decide_true, decide_false, List.map_cons, List.map_nil, List.set_cons_zero, List.set_cons_succ, List.getElem?_cons_zero, List.getElem?_cons_succ, List.getElem?_nil, exists_eq_left, exists_eq_left', V.bl.injEq, V.int.injEq, V.str.injEq, V.ref.injEq, if_true, if_false, ite_true, ite_false, Bool.false_eq_true, eq_self, true_and, and_true, decide_eq_true_eq]
  have eA : DrA (newp H (upd H2 p (.lst (xs1 ++ xs2)))) (xs1 ++ xs2) anyDs := by
    refine DrA.append (DrA.ext ?_ A1) (DrA.ext ?_ A2)
    · exact newp_left (e2.trans (Ext.new hp))
    · exact (newp_right e1).trans (newp_left (Ext.new hp))
  have p1 : Tp t H (upd H2 p (.lst (xs1 ++ xs2))) := Tp.of_ext hT ((e1.trans e2).trans (Ext.new hp))
  refine Or.inl ⟨t, p, xs1 ++ xs2, rfl, p1.b, Or.inl (rdo_of upd_same (fun _ _ z => nomatch z)), ⟨by rw [List.length_append]; omega, by rw [List.length_append]; omega⟩, fun v H' hv fr hT' => ?_⟩
  obtain ⟨d, hd, dv⟩ := DrA.mem eA hv
  have p2 := Tp.of_fr p1.b hT' fr
  exact k v d H' hd (Dr.ext (p1.left p2) dv) (p1.trans p2)
theorem ok_law_bent_word {f0 : Addr} {fd0 : FuncData} (F : At K mg "_law_bent_word" "_law_bent_word" s_law_bent_word ["_law_tape_here", "_law_word"] f0 fd0) (B : Bt mg)  (D_law_pick : Def P w K mg base "_law_pick" ["_law_tape_here", "_law_many"] 1 sp_law_pick) (D_law_one_of : Def P w K mg base "_law_one_of" ["_law_tape_here", "_law_items"] 2 sp_law_one_of) : Def P w K mg base "_law_bent_word" ["_law_tape_here", "_law_word"] 3 sp_law_bent_word := by
  refine okD F sc_law_bent_word (fun vs H Q E h => by obtain ⟨_, _, rfl, _⟩ := h; rfl) (fun cdv A outer s H vs Q E hr tk po h => ?_)
  have hu := hu_of hr
  have hu64 := hr.units
  have hc := (show (true : Bool) = true from rfl)
  have nd := sc_law_bent_word.nd
  refine ⟨_, (pss_cons (ps_par (i := 2) (j := 3) (by rfl) nd rfl rfl (by decide) rfl rfl (pa_cons (pe_fn D_law_pick (hr.mono (by decide)) tk (pa_cons (pn 0) (pa_cons (pe_callB callLen (by rfl) B.len bt_len (pa_cons (pn 1) pa_nil)) pa_nil))) (pa_cons (pe_fn D_law_pick (hr.mono (by decide)) tk (pa_cons (pn 0) (pa_cons pe_int pa_nil))) pa_nil)) (by rfl))
      (pss_cons (ps_if (pt_cmpR (opEq hu64) (pn 3) pe_int (nomark _)) (pss_one (ps_ret (pe_op opAdd (pe_op opAdd (pe_slice slSlice (pn 1) po_none (po_some (pn 2))) (pe_m0 PySem.F.slot_str_upper PySem.F.type_str_upper mtUpper (pe_ix (ixItem hu) (pn 1) (pn 2) (fun _ _ => rfl)))) (pe_slice slSlice (pn 1) (po_some (pe_op opAdd (pn 2) pe_int)) po_none)))) pss_nil)
      (pss_cons (ps_if (pt_cmpR (opEq hu64) (pn 3) pe_int (nomark _)) (pss_one (ps_ret (pe_op opAdd (pe_op opAdd (pe_slice slSlice (pn 1) po_none (po_some (pn 2))) (pe_fn D_law_one_of (hr.mono (by decide)) tk (pa_cons (pn 0) (pa_cons (li_lst (la_cons li_str (la_cons li_str (la_cons li_str (la_cons li_str (la_cons li_str (la_cons li_str (la_cons li_str (la_cons li_str la_nil))))))))) pa_nil)))) (pe_slice slSlice (pn 1) (po_some (pn 2)) po_none)))) pss_nil)
      (pss_one (ps_ret (pe_op opAdd (pe_slice slSlice (pn 1) po_none (po_some (pn 2))) (pe_slice slSlice (pn 1) (po_some (pe_op opAdd (pn 2) pe_int)) po_none))))))), ?_⟩
  clear hu hu64 hc nd tk po hr B D_law_pick D_law_one_of
  obtain ⟨t, w, rfl, hT, ⟨hw0, hw1, hwa⟩, k⟩ := h
  rw [show L2.start _ _ = [some (.ref t), some (.str w), none, none] from rfl]
  have hwl : w.length ≤ sizeLine := Nat.le_trans hw1 (by decide)
  refine sq fun N hN => ?_
  simp only [tSeq, tIfS, tTest, tOp, tV, tC, tAsg, gName, gSub, tRet, tRetN, tCB, tCons, tNil, tDrop, tNext, tAnd, tOr, tNot, tAndV, tOrV, tNotV, tIf, tTru, tUn, tCallS, WE, tTup, tLst, tSl, tPart, tNoPart, tPar, tChain, tBM, tBM0, tM0, tM1, gTup, gCons, gNil, tInC, gC, gN, tCallK, tCst, tRevL, ok_str, ok_int, ok_bool, ok_tuple, ok_list, ok_dict, sub_str, sub_tup, sub_lst, sub_bool, sub_int, sub_dict, Bool.not_true, Bool.not_false, kisS_none, kisS_bool, kisS_int, kisS_str, kisS_list, kisS_tuple, kisS_dict, kisT_none, kisT_bool, kisT_int, kisT_str, kisT_list, kisT_tuple, kisT_dict, kisL_none, kisL_bool, kisL_int, kisL_str, kisL_list, kisL_tuple, kisL_dict, kisB_none, kisB_bool, kisB_int, kisB_str, kisB_list, kisB_tuple, kisB_dict, kisI_none, kisI_bool, kisI_int, kisI_str, kisI_list, kisI_tuple, kisI_dict, kisIB_none, kisIB_bool, kisIB_int, kisIB_str, kisIB_list, kisIB_tuple, kisIB_dict, kisD_none, kisD_bool, kisD_int, kisD_str, kisD_list, kisD_tuple, kisD_dict, rEqU, rNeU, rAdd_1, rAdd_2, rAdd_3, rAdd_4, rSub_1, rMul_1, rMul_2, rMul_3, rDiv_1, rMod_1, rPow_1, rNeg_1, rLt_1, rLe_1, rLe_2, rGt_1, rGe_1, rIs_1, rIs_2, rIsNot_1, rIsNot_2, rMem_1, rItem_1, rItem_2, rStore_1, rLen_1, rLen_2, rInt_1, rInt_2, rMax_1, rMin_1, rList_1, rTuple_1, rAbs_1, rIsi_1, rSlice_1, rSlice_2, mAppend_1, mExtend_1, mPop_1, mPop_2, mInsert_1, mUpper_1, rInT_1, eqR_rr, eqR_rs, eqR_ri, eqR_rb, eqR_rn, eqR_sr, eqR_ir, eqR_br, eqR_nr, isCol_l, isCol_t, isCol_d, isSeq_l, isSeq_t, iAny, wipe, tYes, List.isEmpty_nil, List.isEmpty_cons, truN_non, truN_bl, truN_int, tyN_non, tyN_bl, tyN_int, tyN_str, keyOf, scal_nn, scal_nb, scal_ni, scal_ns, scal_nr, scal_bn, scal_bb, scal_bs, scal_br, scal_in, scal_ii, scal_is, scal_ir, scal_sn, scal_sb, scal_si, scal_ss, scal_sr, scal_rn, scal_rb, scal_ri, scal_rs, scal_rr, decide_true, decide_false, List.map_cons, List.map_nil, List.set_cons_zero, List.set_cons_succ, List.getElem?_cons_zero, List.getElem?_cons_succ, List.getElem?_nil, exists_eq_left, exists_eq_left', V.bl.injEq, V.int.injEq, V.str.injEq, V.ref.injEq, if_true, if_false, ite_true, ite_false, Bool.false_eq_true, eq_self, true_and, and_true, decide_eq_true_eq]
  refine ⟨hwl, t, _, rfl, hT, ⟨by omega, by omega⟩, fun i H1 hi0 hi1 f1 hT1 => ?_⟩
  obtain ⟨i, rfl⟩ := Int.eq_ofNat_of_zero_le hi0
  refine ⟨t, _, rfl, hT1, ⟨by decide, by decide⟩, fun r H2 hr0 hr1 f2 hT2 => ?_⟩
  have x2 : Tp t H H2 := (Tp.of_fr hT hT1 f1).trans (Tp.of_fr hT1 hT2 f2)
  clear f1 f2 hT hT1
  refine ⟨_, _, rfl, ?_⟩
  have hi1 : i < w.length := by omega
  have ec : ∃ c, atI w.cps.toList (i : Int) = some c ∧ c < 128 := by
    have hl : i < w.cps.toList.length := by rw [Array.length_toList]; exact hi1
    exact ⟨_, atI_nat (List.getElem?_eq_getElem hl), asc_iff.mp hwa _ (List.getElem_mem hl)⟩
  obtain ⟨c, ec, hc⟩ := ec
  have hb1 : (cutS w none (some (i : Int))).length ≤ i := by
    rw [cut_len]
    have : HT.sIx w.length w.length (some (i : Int)) = i := (HT.sIx_nat _ _ _).trans (by omega)
    omega
  have hb2 : (cutS w (some ((i : Int) + 1)) none).length ≤ w.length - i := by
    rw [cut_len]
    have : HT.sIx w.length 0 (some ((i : Int) + 1)) = i + 1 := (HT.sIx_nat _ _ (i + 1)).trans (by omega)
    omega
  have hb3 : (cutS w (some (i : Int)) none).length ≤ w.length - i := by
    rw [cut_len]
    have : HT.sIx w.length 0 (some (i : Int)) = i := (HT.sIx_nat _ _ _).trans (by omega)
    omega
  refine hN _ _ ?_; clear hN N
  refine sq fun N hN => ?_
  simp only [tSeq, tIfS, tTest, tOp, tV, tC, tAsg, gName, gSub, tRet, tRetN, tCB, tCons, tNil, tDrop, tNext, tAnd, tOr, tNot, tAndV, tOrV, tNotV, tIf, tTru, tUn, tCallS, WE, tTup, tLst, tSl, tPart, tNoPart, tPar, tChain, tBM, tBM0, tM0, tM1, gTup, gCons, gNil, tInC, gC, gN, tCallK, tCst, tRevL, ok_str, ok_int, ok_bool, ok_tuple, ok_list, ok_dict, sub_str, sub_tup, sub_lst, sub_bool, sub_int, sub_dict, Bool.not_true, Bool.not_false, kisS_none, kisS_bool, kisS_int, kisS_str, kisS_list, kisS_tuple, kisS_dict, kisT_none, kisT_bool, kisT_int, kisT_str, kisT_list, kisT_tuple, kisT_dict, kisL_none, kisL_bool, kisL_int, kisL_str, kisL_list, kisL_tuple, kisL_dict, kisB_none, kisB_bool, kisB_int, kisB_str, kisB_list, kisB_tuple, kisB_dict, kisI_none, kisI_bool, kisI_int, kisI_str, kisI_list, kisI_tuple, kisI_dict, kisIB_none, kisIB_bool, kisIB_int, kisIB_str, kisIB_list, kisIB_tuple, kisIB_dict, kisD_none, kisD_bool, kisD_int, kisD_str, kisD_list, kisD_tuple, kisD_dict, rEqU, rNeU, rAdd_1, rAdd_2, rAdd_3, rAdd_4, rSub_1, rMul_1, rMul_2, rMul_3, rDiv_1, rMod_1, rPow_1, rNeg_1, rLt_1, rLe_1, rLe_2, rGt_1, rGe_1, rIs_1, rIs_2, rIsNot_1, rIsNot_2, rMem_1, rItem_1, rItem_2, rStore_1, rLen_1, rLen_2, rInt_1, rInt_2, rMax_1, rMin_1, rList_1, rTuple_1, rAbs_1, rIsi_1, rSlice_1, rSlice_2, mAppend_1, mExtend_1, mPop_1, mPop_2, mInsert_1, mUpper_1, rInT_1, eqR_rr, eqR_rs, eqR_ri, eqR_rb, eqR_rn, eqR_sr, eqR_ir, eqR_br, eqR_nr, isCol_l, isCol_t, isCol_d, isSeq_l, isSeq_t, iAny, wipe, tYes, List.isEmpty_nil, List.isEmpty_cons, truN_non, truN_bl, truN_int, tyN_non, tyN_bl, tyN_int, tyN_str, keyOf, scal_nn, scal_nb, scal_ni, scal_ns, scal_nr, scal_bn, scal_bb, scal_bs, scal_br, scal_in, scal_ii, scal_is, scal_ir, scal_sn, scal_sb, scal_si, scal_ss, scal_sr, scal_rn, scal_rb, scal_ri, scal_rs, scal_rr, decide_true, decide_false, List.map_cons, List.map_nil, List.set_cons_zero, List.set_cons_succ, List.getElem?_cons_zero, List.getElem?_cons_succ, List.getElem?_nil, exists_eq_left, exists_eq_left', V.bl.injEq, V.int.injEq, V.str.injEq, V.ref.injEq, if_true, if_false, ite_true, ite_false, Bool.false_eq_true, eq_self, true_and, and_true, decide_eq_true_eq, ec]
  obtain ⟨hu1, hu2⟩ := upper_asc c hc
  have big : 1000 ≤ sizeLine := by decide
  refine ite2 (fun _ => ?_) (fun _ => ?_)
  · refine ⟨hwl, hwl, ⟨_, rfl⟩, by show 1 ≤ 5592405; decide, by omega, hwl, by rw [strLen_append]; omega, ?_⟩
    exact k _ H2 (asc_append (asc_append (asc_cut hwa) hu2) (asc_cut hwa)) (by rw [strLen_append, strLen_append]; omega) x2
  refine hN _ _ ?_; clear hN N
  refine sq fun N hN => ?_
  simp only [tSeq, tIfS, tTest, tOp, tV, tC, tAsg, gName, gSub, tRet, tRetN, tCB, tCons, tNil, tDrop, tNext, tAnd, tOr, tNot, tAndV, tOrV, tNotV, tIf, tTru, tUn, tCallS, WE, tTup, tLst, tSl, tPart, tNoPart, tPar, tChain, tBM, tBM0, tM0, tM1, gTup, gCons, gNil, tInC, gC, gN, tCallK, tCst, tRevL, ok_str, ok_int, ok_bool, ok_tuple, ok_list, ok_dict, sub_str, sub_tup, sub_lst, sub_bool, sub_int, sub_dict, Bool.not_true, Bool.not_false, kisS_none, kisS_bool, kisS_int, kisS_str, kisS_list, kisS_tuple, kisS_dict, kisT_none, kisT_bool, kisT_int, kisT_str, kisT_list, kisT_tuple, kisT_dict, kisL_none, kisL_bool, kisL_int, kisL_str, kisL_list, kisL_tuple, kisL_dict, kisB_none, kisB_bool, kisB_int, kisB_str, kisB_list, kisB_tuple, kisB_dict, kisI_none, kisI_bool, kisI_int, kisI_str, kisI_list, kisI_tuple, kisI_dict, kisIB_none, kisIB_bool, kisIB_int, kisIB_str, kisIB_list, kisIB_tuple, kisIB_dict, kisD_none, kisD_bool, kisD_int, kisD_str, kisD_list, kisD_tuple, kisD_dict, rEqU, rNeU, rAdd_1, rAdd_2, rAdd_3, rAdd_4, rSub_1, rMul_1, rMul_2, rMul_3, rDiv_1, rMod_1, rPow_1, rNeg_1, rLt_1, rLe_1, rLe_2, rGt_1, rGe_1, rIs_1, rIs_2, rIsNot_1, rIsNot_2, rMem_1, rItem_1, rItem_2, rStore_1, rLen_1, rLen_2, rInt_1, rInt_2, rMax_1, rMin_1, rList_1, rTuple_1, rAbs_1, rIsi_1, rSlice_1, rSlice_2, mAppend_1, mExtend_1, mPop_1, mPop_2, mInsert_1, mUpper_1, rInT_1, eqR_rr, eqR_rs, eqR_ri, eqR_rb, eqR_rn, eqR_sr, eqR_ir, eqR_br, eqR_nr, isCol_l, isCol_t, isCol_d, isSeq_l, isSeq_t, iAny, wipe, tYes, List.isEmpty_nil, List.isEmpty_cons, truN_non, truN_bl, truN_int, tyN_non, tyN_bl, tyN_int, tyN_str, keyOf, scal_nn, scal_nb, scal_ni, scal_ns, scal_nr, scal_bn, scal_bb, scal_bs, scal_br, scal_in, scal_ii, scal_is, scal_ir, scal_sn, scal_sb, scal_si, scal_ss, scal_sr, scal_rn, scal_rb, scal_ri, scal_rs, scal_rr, decide_true, decide_false, List.map_cons, List.map_nil, List.set_cons_zero, List.set_cons_succ, List.getElem?_cons_zero, List.getElem?_cons_succ, List.getElem?_nil, exists_eq_left, exists_eq_left', V.bl.injEq, V.int.injEq, V.str.injEq, V.ref.injEq, if_true, if_false, ite_true, ite_false, Bool.false_eq_true, eq_self, true_and, and_true, decide_eq_true_eq, ec]
  refine ite2 (fun _ => ?_) (fun _ => ?_)
  · refine ⟨hwl, fun v H3 e3 L => ?_⟩
    refine one_strs [" ", "s", "_", "-", "A", "0", ".", "~"] hT2 e3 L (by decide) fun z H4 hz x4 => ?_
    have hz2 : z.length = 1 ∧ asc z = true := by
      have := (show ∀ z ∈ ([" ", "s", "_", "-", "A", "0", ".", "~"] : List Str), z.length = 1 ∧ asc z = true by decide +kernel)
      exact this z hz
    refine ⟨by omega, hwl, by rw [strLen_append]; omega, ?_⟩
    exact k _ H4 (asc_append (asc_append (asc_cut hwa) hz2.2) (asc_cut hwa)) (by rw [strLen_append, strLen_append]; omega) (x2.trans x4)
  refine hN _ _ ?_; clear hN N
  simp only [tSeq, tIfS, tTest, tOp, tV, tC, tAsg, gName, gSub, tRet, tRetN, tCB, tCons, tNil, tDrop, tNext, tAnd, tOr, tNot, tAndV, tOrV, tNotV, tIf, tTru, tUn, tCallS, WE, tTup, tLst, tSl, tPart, tNoPart, tPar, tChain, tBM, tBM0, tM0, tM1, gTup, gCons, gNil, tInC, gC, gN, tCallK, tCst, tRevL, ok_str, ok_int, ok_bool, ok_tuple, ok_list, ok_dict, sub_str, sub_tup, sub_lst, sub_bool, sub_int, sub_dict, Bool.not_true, Bool.not_false, kisS_none, kisS_bool, kisS_int, kisS_str, kisS_list, kisS_tuple, kisS_dict, kisT_none, kisT_bool, kisT_int, kisT_str, kisT_list, kisT_tuple, kisT_dict, kisL_none, kisL_bool, kisL_int, kisL_str, kisL_list, kisL_tuple, kisL_dict, kisB_none, kisB_bool, kisB_int, kisB_str, kisB_list, kisB_tuple, kisB_dict, kisI_none, kisI_bool, kisI_int, kisI_str, kisI_list, kisI_tuple, kisI_dict, kisIB_none, kisIB_bool, kisIB_int, kisIB_str, kisIB_list, kisIB_tuple, kisIB_dict, kisD_none, kisD_bool, kisD_int, kisD_str, kisD_list, kisD_tuple, kisD_dict, rEqU, rNeU, rAdd_1, rAdd_2, rAdd_3, rAdd_4, rSub_1, rMul_1, rMul_2, rMul_3, rDiv_1, rMod_1, rPow_1, rNeg_1, rLt_1, rLe_1, rLe_2, rGt_1, rGe_1, rIs_1, rIs_2, rIsNot_1, rIsNot_2, rMem_1, rItem_1, rItem_2, rStore_1, rLen_1, rLen_2, rInt_1, rInt_2, rMax_1, rMin_1, rList_1, rTuple_1, rAbs_1, rIsi_1, rSlice_1, rSlice_2, mAppend_1, mExtend_1, mPop_1, mPop_2, mInsert_1, mUpper_1, rInT_1, eqR_rr, eqR_rs, eqR_ri, eqR_rb, eqR_rn, eqR_sr, eqR_ir, eqR_br, eqR_nr, isCol_l, isCol_t, isCol_d, isSeq_l, isSeq_t, iAny, wipe, tYes, List.isEmpty_nil, List.isEmpty_cons, truN_non, truN_bl, truN_int, tyN_non, tyN_bl, tyN_int, tyN_str, keyOf, scal_nn, scal_nb, scal_ni, scal_ns, scal_nr, scal_bn, scal_bb, scal_bs, scal_br, scal_in, scal_ii, scal_is, scal_ir, scal_sn, scal_sb, scal_si, scal_ss, scal_sr, scal_rn, scal_rb, scal_ri, scal_rs, scal_rr, decide_true, decide_false, List.map_cons, List.map_nil, List.set_cons_zero, List.set_cons_succ, List.getElem?_cons_zero, List.getElem?_cons_succ, List.getElem?_nil, exists_eq_left, exists_eq_left', V.bl.injEq, V.int.injEq, V.str.injEq, V.ref.injEq, if_true, if_false, ite_true, ite_false, Bool.false_eq_true, eq_self, true_and, and_true, decide_eq_true_eq]
  exact ⟨hwl, hwl, by omega, k _ H2 (asc_append (asc_cut hwa) (asc_cut hwa)) (by rw [strLen_append]; omega) x2⟩
end
end Rm
namespace Rm
open PySem PySem.Spec L2
open PyProof.Rows hiding St
abbrev s_is_name : Stmt := topS 10
theorem sc_is_name : FnScope ["value", "sign"] ["value"] (defScope s_is_name) := ⟨rfl, rfl, rfl, by decide +kernel, rfl, by decide +kernel, by decide +kernel⟩
abbrev s_is_value : Stmt := topS 11
theorem sc_is_value : FnScope ["value"] ["value"] (defScope s_is_value) := ⟨rfl, rfl, rfl, by decide +kernel, rfl, by decide +kernel, by decide +kernel⟩
def letters : Str := "abcdefghijklmnopqrstuvwxyz"
def nameS (s : Str) : Bool := (decide (1 ≤ s.length) && decide (s.length ≤ 6)) && s.cps.toList.all fun c => decide (c ∈ letters.cps.toList)
def isNam (d : PyData) : Bool := match d with
  | .str s => nameS s
  | _ => false
/-- a text is no longer than may be -/
def txtOk (d : PyData) : Prop := ∀ s, d = .str s → s.length ≤ 100000
theorem Fine.txt {n k : Nat} {d : PyData} (h : Fine n k d) (hn : n ≤ 1000000) : txtOk d := fun s e => by
  subst e
  have := (fine_iff.mp h).2.1
  simp only [lnB] at this
  omega
def sp_is_name : Sp := fun vs H Q _ => ∃ v d, vs = [v] ∧ Dr H v d ∧ txtOk d ∧ ∀ H', Ext H H' → Q (.bl (isNam d)) H'
def isVal (d : PyData) : Bool := match d with
  | .int i => decide ((if i < 0 then -i else i) < 1000000000000000000000000000000)
  | _ => false
def sp_is_value : Sp := fun vs H Q _ => ∃ v d, vs = [v] ∧ Dr H v d ∧ Q (.bl (isVal d)) H
section
variable {P : Program} {w : World} {K : PySem.W.Frag} {mg : Str → Option Value} {base : Heap}
theorem ok_is_name {f0 : Addr} {fd0 : FuncData} (F : At K mg "is_name" "is_name" s_is_name ["value"] f0 fd0) (B : Bt mg)  (C_MOST_LETTERS : ∃ t, mg "MOST_LETTERS" = some (.int (6) t)) (C_LETTERS : ∃ t, mg "LETTERS" = some (.str "abcdefghijklmnopqrstuvwxyz" t)) : Def P w K mg base "is_name" ["value"] 1 sp_is_name := by
  refine okD F sc_is_name (fun vs H Q E h => by obtain ⟨_, _, rfl, _⟩ := h; rfl) (fun cdv A outer s H vs Q E hr tk po h => ?_)
  have hu := hu_of hr
  have hu64 := hr.units
  have hc := (show (true : Bool) = true from rfl)
  have nd := sc_is_name.nd
  refine ⟨_, (pss_one (ps_ret (pe_and (pe_callB callIsi (by rfl) B.isinstance boot_isinstance (pa_cons (pn 0) (pa_cons (pe_bltn (v := .ty "str") (by rfl) B.str boot_str rfl) pa_nil))) (pe_and (pe_chain opLe opLe pe_int (pe_callB callLen (by rfl) B.len bt_len (pa_cons (pn 0) pa_nil)) (pe_g C_MOST_LETTERS)) (pe_one (pe_callB (cr_all hc) (by rfl) B.all bt_all (pa_cons (pe_lc (own := [("sign", 1)]) hc nd (pi_any (pn 0)) (blkOk_by (own := [("sign", 1)]) (N := ["value", "sign"]) (sc := defScope s_is_name) (by decide +kernel)) (fun _ _ _ _ _ => (pg_name (i := 1) nd rfl (Or.inl rfl))) (fun _ _ _ _ _ => pts_nil) (fun _ _ _ _ _ => (pe_cmpR opInT (pn 1) (pe_gs C_LETTERS) rfl))) pa_nil))))))), ?_⟩
  clear hu hu64 hc nd tk po hr B C_MOST_LETTERS C_LETTERS
  obtain ⟨v, d, rfl, hd, hl, k⟩ := h
  rw [show L2.start _ _ = [some v, none] from rfl]
  have no : isNam d = false → Q (.bl false) H := fun e => e ▸ k H (Ext.refl H)
  simp only [tSeq, tIfS, tTest, tOp, tV, tC, tAsg, gName, gSub, tRet, tRetN, tCB, tCons, tNil, tDrop, tNext, tAnd, tOr, tNot, tAndV, tOrV, tNotV, tIf, tTru, tUn, tCallS, WE, tTup, tLst, tSl, tPart, tNoPart, tPar, tChain, tBM, tBM0, tM0, tM1, gTup, gCons, gNil, tInC, gC, gN, tCallK, tCst, tRevL, ok_str, ok_int, ok_bool, ok_tuple, ok_list, ok_dict, sub_str, sub_tup, sub_lst, sub_bool, sub_int, sub_dict, Bool.not_true, Bool.not_false, kisS_none, kisS_bool, kisS_int, kisS_str, kisS_list, kisS_tuple, kisS_dict, kisT_none, kisT_bool, kisT_int, kisT_str, kisT_list, kisT_tuple, kisT_dict, kisL_none, kisL_bool, kisL_int, kisL_str, kisL_list, kisL_tuple, kisL_dict, kisB_none, kisB_bool, kisB_int, kisB_str, kisB_list, kisB_tuple, kisB_dict, kisI_none, kisI_bool, kisI_int, kisI_str, kisI_list, kisI_tuple, kisI_dict, kisIB_none, kisIB_bool, kisIB_int, kisIB_str, kisIB_list, kisIB_tuple, kisIB_dict, kisD_none, kisD_bool, kisD_int, kisD_str, kisD_list, kisD_tuple, kisD_dict, rEqU, rNeU, rAdd_1, rAdd_2, rAdd_3, rAdd_4, rSub_1, rMul_1, rMul_2, rMul_3, rDiv_1, rMod_1, rPow_1, rNeg_1, rLt_1, rLe_1, rLe_2, rGt_1, rGe_1, rIs_1, rIs_2, rIsNot_1, rIsNot_2, rMem_1, rItem_1, rItem_2, rStore_1, rLen_1, rLen_2, rInt_1, rInt_2, rMax_1, rMin_1, rList_1, rTuple_1, rAbs_1, rIsi_1, rSlice_1, rSlice_2, mAppend_1, mExtend_1, mPop_1, mPop_2, mInsert_1, mUpper_1, rInT_1, eqR_rr, eqR_rs, eqR_ri, eqR_rb, eqR_rn, eqR_sr, eqR_ir, eqR_br, eqR_nr, isCol_l, isCol_t, isCol_d, isSeq_l, isSeq_t, iAny, wipe, tYes, List.isEmpty_nil, List.isEmpty_cons, truN_non, truN_bl, truN_int, tyN_non, tyN_bl, tyN_int, tyN_str, keyOf, scal_nn, scal_nb, scal_ni, scal_ns, scal_nr, scal_bn, scal_bb, scal_bs, scal_br, scal_in, scal_ii, scal_is, scal_ir, scal_sn, scal_sb, scal_si, scal_ss, scal_sr, scal_rn, scal_rb, scal_ri, scal_rs, scal_rr, decide_true, decide_false, List.map_cons, List.map_nil, List.set_cons_zero, List.set_cons_succ, List.getElem?_cons_zero, List.getElem?_cons_succ, List.getElem?_nil, exists_eq_left, exists_eq_left', V.bl.injEq, V.int.injEq, V.str.injEq, V.ref.injEq, if_true, if_false, ite_true, ite_false, Bool.false_eq_true, eq_self, true_and, and_true, decide_eq_true_eq, tyN_dr hd]
  refine ite2 (fun hs => ?_) (fun hs => no (by cases d <;> first | rfl | exact absurd rfl hs))
  obtain ⟨s, rfl⟩ := of_isS hs
  obtain rfl := dr_str hd
  have hl := hl s rfl
  have hz : s.length ≤ sizeLine := Nat.le_trans hl (by decide)
  simp only [tSeq, tIfS, tTest, tOp, tV, tC, tAsg, gName, gSub, tRet, tRetN, tCB, tCons, tNil, tDrop, tNext, tAnd, tOr, tNot, tAndV, tOrV, tNotV, tIf, tTru, tUn, tCallS, WE, tTup, tLst, tSl, tPart, tNoPart, tPar, tChain, tBM, tBM0, tM0, tM1, gTup, gCons, gNil, tInC, gC, gN, tCallK, tCst, tRevL, ok_str, ok_int, ok_bool, ok_tuple, ok_list, ok_dict, sub_str, sub_tup, sub_lst, sub_bool, sub_int, sub_dict, Bool.not_true, Bool.not_false, kisS_none, kisS_bool, kisS_int, kisS_str, kisS_list, kisS_tuple, kisS_dict, kisT_none, kisT_bool, kisT_int, kisT_str, kisT_list, kisT_tuple, kisT_dict, kisL_none, kisL_bool, kisL_int, kisL_str, kisL_list, kisL_tuple, kisL_dict, kisB_none, kisB_bool, kisB_int, kisB_str, kisB_list, kisB_tuple, kisB_dict, kisI_none, kisI_bool, kisI_int, kisI_str, kisI_list, kisI_tuple, kisI_dict, kisIB_none, kisIB_bool, kisIB_int, kisIB_str, kisIB_list, kisIB_tuple, kisIB_dict, kisD_none, kisD_bool, kisD_int, kisD_str, kisD_list, kisD_tuple, kisD_dict, rEqU, rNeU, rAdd_1, rAdd_2, rAdd_3, rAdd_4, rSub_1, rMul_1, rMul_2, rMul_3, rDiv_1, rMod_1, rPow_1, rNeg_1, rLt_1, rLe_1, rLe_2, rGt_1, rGe_1, rIs_1, rIs_2, rIsNot_1, rIsNot_2, rMem_1, rItem_1, rItem_2, rStore_1, rLen_1, rLen_2, rInt_1, rInt_2, rMax_1, rMin_1, rList_1, rTuple_1, rAbs_1, rIsi_1, rSlice_1, rSlice_2, mAppend_1, mExtend_1, mPop_1, mPop_2, mInsert_1, mUpper_1, rInT_1, eqR_rr, eqR_rs, eqR_ri, eqR_rb, eqR_rn, eqR_sr, eqR_ir, eqR_br, eqR_nr, isCol_l, isCol_t, isCol_d, isSeq_l, isSeq_t, iAny, wipe, tYes, List.isEmpty_nil, List.isEmpty_cons, truN_non, truN_bl, truN_int, tyN_non, tyN_bl, tyN_int, tyN_str, keyOf, scal_nn, scal_nb, scal_ni, scal_ns, scal_nr, scal_bn, scal_bb, scal_bs, scal_br, scal_in, scal_ii, scal_is, scal_ir, scal_sn, scal_sb, scal_si, scal_ss, scal_sr, scal_rn, scal_rb, scal_ri, scal_rs, scal_rr, decide_true, decide_false, List.map_cons, List.map_nil, List.set_cons_zero, List.set_cons_succ, List.getElem?_cons_zero, List.getElem?_cons_succ, List.getElem?_nil, exists_eq_left, exists_eq_left', V.bl.injEq, V.int.injEq, V.str.injEq, V.ref.injEq, if_true, if_false, ite_true, ite_false, Bool.false_eq_true, eq_self, true_and, and_true, decide_eq_true_eq]
  refine ⟨hz, ite2 (fun h1 => ite2 (fun h2 => ?_) (fun h2 => no ?_)) (fun h1 => no ?_)⟩
  rotate_left
  · have e : decide (s.length ≤ 6) = false := decide_eq_false (by omega)
    simp only [isNam, nameS, e, Bool.and_false, Bool.false_and]
  · have e : decide (1 ≤ s.length) = false := decide_eq_false (by omega)
    simp only [isNam, nameS, e, Bool.false_and]
  have e1 : decide (1 ≤ s.length) = true := decide_eq_true (by omega)
  have e2 : decide (s.length ≤ 6) = true := decide_eq_true (by omega)
  have k : ∀ H', Ext H H' → Q (.bl (s.cps.toList.all fun c => decide (c ∈ letters.cps.toList))) H' := by
    simp only [isNam, nameS, e1, e2, Bool.true_and] at k
    exact k
  refine fun D hD => ?_
  refine lc_it walk_str (fun i H' => H' = upd H D (.lst ((s.cps.toList.take i).map fun c => V.bl (decide (c ∈ letters.cps.toList))))) rfl (fun _ _ _ _ => trivial) (fun i x H1 H2 hi p y => ?_) (fun H1 p => ?_)
  · obtain ⟨rfl, c, hc, rfl⟩ := y
    subst p
    simp only [tSeq, tIfS, tTest, tOp, tV, tC, tAsg, gName, gSub, tRet, tRetN, tCB, tCons, tNil, tDrop, tNext, tAnd, tOr, tNot, tAndV, tOrV, tNotV, tIf, tTru, tUn, tCallS, WE, tTup, tLst, tSl, tPart, tNoPart, tPar, tChain, tBM, tBM0, tM0, tM1, gTup, gCons, gNil, tInC, gC, gN, tCallK, tCst, tRevL, ok_str, ok_int, ok_bool, ok_tuple, ok_list, ok_dict, sub_str, sub_tup, sub_lst, sub_bool, sub_int, sub_dict, Bool.not_true, Bool.not_false, kisS_none, kisS_bool, kisS_int, kisS_str, kisS_list, kisS_tuple, kisS_dict, kisT_none, kisT_bool, kisT_int, kisT_str, kisT_list, kisT_tuple, kisT_dict, kisL_none, kisL_bool, kisL_int, kisL_str, kisL_list, kisL_tuple, kisL_dict, kisB_none, kisB_bool, kisB_int, kisB_str, kisB_list, kisB_tuple, kisB_dict, kisI_none, kisI_bool, kisI_int, kisI_str, kisI_list, kisI_tuple, kisI_dict, kisIB_none, kisIB_bool, kisIB_int, kisIB_str, kisIB_list, kisIB_tuple, kisIB_dict, kisD_none, kisD_bool, kisD_int, kisD_str, kisD_list, kisD_tuple, kisD_dict, rEqU, rNeU, rAdd_1, rAdd_2, rAdd_3, rAdd_4, rSub_1, rMul_1, rMul_2, rMul_3, rDiv_1, rMod_1, rPow_1, rNeg_1, rLt_1, rLe_1, rLe_2, rGt_1, rGe_1, rIs_1, rIs_2, rIsNot_1, rIsNot_2, rMem_1, rItem_1, rItem_2, rStore_1, rLen_1, rLen_2, rInt_1, rInt_2, rMax_1, rMin_1, rList_1, rTuple_1, rAbs_1, rIsi_1, rSlice_1, rSlice_2, mAppend_1, mExtend_1, mPop_1, mPop_2, mInsert_1, mUpper_1, rInT_1, eqR_rr, eqR_rs, eqR_ri, eqR_rb, eqR_rn, eqR_sr, eqR_ir, eqR_br, eqR_nr, isCol_l, isCol_t, isCol_d, isSeq_l, isSeq_t, iAny, wipe, tYes, List.isEmpty_nil, List.isEmpty_cons, truN_non, truN_bl, truN_int, tyN_non, tyN_bl, tyN_int, tyN_str, keyOf, scal_nn, scal_nb, scal_ni, scal_ns, scal_nr, scal_bn, scal_bb, scal_bs, scal_br, scal_in, scal_ii, scal_is, scal_ir, scal_sn, scal_sb, scal_si, scal_ss, scal_sr, scal_rn, scal_rb, scal_ri, scal_rs, scal_rr, decide_true, decide_false, List.map_cons, List.map_nil, List.set_cons_zero, List.set_cons_succ, List.getElem?_cons_zero, List.getElem?_cons_succ, List.getElem?_nil, exists_eq_left, exists_eq_left', V.bl.injEq, V.int.injEq, V.str.injEq, V.ref.injEq, if_true, if_false, ite_true, ite_false, Bool.false_eq_true, eq_self, true_and, and_true, decide_eq_true_eq]
    refine ⟨_, upd_same, ?_, ?_⟩
    · have : s.cps.toList.length = s.length := Array.length_toList
      have big : 1000 ≤ sizeLine := by decide
      rw [List.length_map, List.length_take]
      omega
    · rw [upd_upd, take_sign (fun c => V.bl (decide (c ∈ letters.cps.toList))) hc]
      rfl
  · subst p
    have ea : s.cps.toList.take s.cps.size = s.cps.toList := List.take_of_length_le (by rw [Array.length_toList]; exact Nat.le_refl _)
    rw [ea]
    refine ⟨D, s.cps.toList.map fun c => decide (c ∈ letters.cps.toList), rfl, rdo_l (rdo_of (by rw [List.map_map]; exact upd_same) (fun _ _ z => nomatch z)), ?_⟩
    rw [List.all_map]
    exact k _ (Ext.new hD)
theorem ok_is_value {f0 : Addr} {fd0 : FuncData} (F : At K mg "is_value" "is_value" s_is_value ["value"] f0 fd0) (B : Bt mg)  (C_TOO_GREAT : ∃ t, mg "TOO_GREAT" = some (.int (1000000000000000000000000000000) t)) (D_is_integer : Def P w K mg base "is_integer" ["value"] 1 sp_is_integer) : Def P w K mg base "is_value" ["value"] 2 sp_is_value := by
  refine okD F sc_is_value (fun vs H Q E h => by obtain ⟨_, _, rfl, _⟩ := h; rfl) (fun cdv A outer s H vs Q E hr tk po h => ?_)
  have hu := hu_of hr
  have hu64 := hr.units
  have hc := (show (true : Bool) = true from rfl)
  have nd := sc_is_value.nd
  refine ⟨_, (pss_one (ps_ret (pe_and (pe_fn D_is_integer (hr.mono (by decide)) tk (pa_cons (pn 0) pa_nil)) (pe_one (pe_cmpR opLt (pe_callB callAbs (by rfl) B.abs boot_abs (pa_cons (pn 0) pa_nil)) (pe_g C_TOO_GREAT) (nomark _)))))), ?_⟩
  clear hu hu64 hc nd tk po hr B D_is_integer C_TOO_GREAT
  obtain ⟨v, d, rfl, hd, k⟩ := h
  rw [show L2.start _ _ = [some v] from rfl]
  simp only [tSeq, tIfS, tTest, tOp, tV, tC, tAsg, gName, gSub, tRet, tRetN, tCB, tCons, tNil, tDrop, tNext, tAnd, tOr, tNot, tAndV, tOrV, tNotV, tIf, tTru, tUn, tCallS, WE, tTup, tLst, tSl, tPart, tNoPart, tPar, tChain, tBM, tBM0, tM0, tM1, gTup, gCons, gNil, tInC, gC, gN, tCallK, tCst, tRevL, ok_str, ok_int, ok_bool, ok_tuple, ok_list, ok_dict, sub_str, sub_tup, sub_lst, sub_bool, sub_int, sub_dict, Bool.not_true, Bool.not_false, kisS_none, kisS_bool, kisS_int, kisS_str, kisS_list, kisS_tuple, kisS_dict, kisT_none, kisT_bool, kisT_int, kisT_str, kisT_list, kisT_tuple, kisT_dict, kisL_none, kisL_bool, kisL_int, kisL_str, kisL_list, kisL_tuple, kisL_dict, kisB_none, kisB_bool, kisB_int, kisB_str, kisB_list, kisB_tuple, kisB_dict, kisI_none, kisI_bool, kisI_int, kisI_str, kisI_list, kisI_tuple, kisI_dict, kisIB_none, kisIB_bool, kisIB_int, kisIB_str, kisIB_list, kisIB_tuple, kisIB_dict, kisD_none, kisD_bool, kisD_int, kisD_str, kisD_list, kisD_tuple, kisD_dict, rEqU, rNeU, rAdd_1, rAdd_2, rAdd_3, rAdd_4, rSub_1, rMul_1, rMul_2, rMul_3, rDiv_1, rMod_1, rPow_1, rNeg_1, rLt_1, rLe_1, rLe_2, rGt_1, rGe_1, rIs_1, rIs_2, rIsNot_1, rIsNot_2, rMem_1, rItem_1, rItem_2, rStore_1, rLen_1, rLen_2, rInt_1, rInt_2, rMax_1, rMin_1, rList_1, rTuple_1, rAbs_1, rIsi_1, rSlice_1, rSlice_2, mAppend_1, mExtend_1, mPop_1, mPop_2, mInsert_1, mUpper_1, rInT_1, eqR_rr, eqR_rs, eqR_ri, eqR_rb, eqR_rn, eqR_sr, eqR_ir, eqR_br, eqR_nr, isCol_l, isCol_t, isCol_d, isSeq_l, isSeq_t, iAny, wipe, tYes, List.isEmpty_nil, List.isEmpty_cons, truN_non, truN_bl, truN_int, tyN_non, tyN_bl, tyN_int, tyN_str, keyOf, scal_nn, scal_nb, scal_ni, scal_ns, scal_nr, scal_bn, scal_bb, scal_bs, scal_br, scal_in, scal_ii, scal_is, scal_ir, scal_sn, scal_sb, scal_si, scal_ss, scal_sr, scal_rn, scal_rb, scal_ri, scal_rs, scal_rr, decide_true, decide_false, List.map_cons, List.map_nil, List.set_cons_zero, List.set_cons_succ, List.getElem?_cons_zero, List.getElem?_cons_succ, List.getElem?_nil, exists_eq_left, exists_eq_left', V.bl.injEq, V.int.injEq, V.str.injEq, V.ref.injEq, if_true, if_false, ite_true, ite_false, Bool.false_eq_true, eq_self, true_and, and_true, decide_eq_true_eq]
  refine ⟨v, d, rfl, hd, ?_⟩
  simp only [tSeq, tIfS, tTest, tOp, tV, tC, tAsg, gName, gSub, tRet, tRetN, tCB, tCons, tNil, tDrop, tNext, tAnd, tOr, tNot, tAndV, tOrV, tNotV, tIf, tTru, tUn, tCallS, WE, tTup, tLst, tSl, tPart, tNoPart, tPar, tChain, tBM, tBM0, tM0, tM1, gTup, gCons, gNil, tInC, gC, gN, tCallK, tCst, tRevL, ok_str, ok_int, ok_bool, ok_tuple, ok_list, ok_dict, sub_str, sub_tup, sub_lst, sub_bool, sub_int, sub_dict, Bool.not_true, Bool.not_false, kisS_none, kisS_bool, kisS_int, kisS_str, kisS_list, kisS_tuple, kisS_dict, kisT_none, kisT_bool, kisT_int, kisT_str, kisT_list, kisT_tuple, kisT_dict, kisL_none, kisL_bool, kisL_int, kisL_str, kisL_list, kisL_tuple, kisL_dict, kisB_none, kisB_bool, kisB_int, kisB_str, kisB_list, kisB_tuple, kisB_dict, kisI_none, kisI_bool, kisI_int, kisI_str, kisI_list, kisI_tuple, kisI_dict, kisIB_none, kisIB_bool, kisIB_int, kisIB_str, kisIB_list, kisIB_tuple, kisIB_dict, kisD_none, kisD_bool, kisD_int, kisD_str, kisD_list, kisD_tuple, kisD_dict, rEqU, rNeU, rAdd_1, rAdd_2, rAdd_3, rAdd_4, rSub_1, rMul_1, rMul_2, rMul_3, rDiv_1, rMod_1, rPow_1, rNeg_1, rLt_1, rLe_1, rLe_2, rGt_1, rGe_1, rIs_1, rIs_2, rIsNot_1, rIsNot_2, rMem_1, rItem_1, rItem_2, rStore_1, rLen_1, rLen_2, rInt_1, rInt_2, rMax_1, rMin_1, rList_1, rTuple_1, rAbs_1, rIsi_1, rSlice_1, rSlice_2, mAppend_1, mExtend_1, mPop_1, mPop_2, mInsert_1, mUpper_1, rInT_1, eqR_rr, eqR_rs, eqR_ri, eqR_rb, eqR_rn, eqR_sr, eqR_ir, eqR_br, eqR_nr, isCol_l, isCol_t, isCol_d, isSeq_l, isSeq_t, iAny, wipe, tYes, List.isEmpty_nil, List.isEmpty_cons, truN_non, truN_bl, truN_int, tyN_non, tyN_bl, tyN_int, tyN_str, keyOf, scal_nn, scal_nb, scal_ni, scal_ns, scal_nr, scal_bn, scal_bb, scal_bs, scal_br, scal_in, scal_ii, scal_is, scal_ir, scal_sn, scal_sb, scal_si, scal_ss, scal_sr, scal_rn, scal_rb, scal_ri, scal_rs, scal_rr, decide_true, decide_false, List.map_cons, List.map_nil, List.set_cons_zero, List.set_cons_succ, List.getElem?_cons_zero, List.getElem?_cons_succ, List.getElem?_nil, exists_eq_left, exists_eq_left', V.bl.injEq, V.int.injEq, V.str.injEq, V.ref.injEq, if_true, if_false, ite_true, ite_false, Bool.false_eq_true, eq_self, true_and, and_true, decide_eq_true_eq]
  refine ite2 (fun hs => ?_) (fun hs => ?_)
  · obtain ⟨i, rfl⟩ := of_isI hs
    obtain rfl := dr_int hd
    simp only [tSeq, tIfS, tTest, tOp, tV, tC, tAsg, gName, gSub, tRet, tRetN, tCB, tCons, tNil, tDrop, tNext, tAnd, tOr, tNot, tAndV, tOrV, tNotV, tIf, tTru, tUn, tCallS, WE, tTup, tLst, tSl, tPart, tNoPart, tPar, tChain, tBM, tBM0, tM0, tM1, gTup, gCons, gNil, tInC, gC, gN, tCallK, tCst, tRevL, ok_str, ok_int, ok_bool, ok_tuple, ok_list, ok_dict, sub_str, sub_tup, sub_lst, sub_bool, sub_int, sub_dict, Bool.not_true, Bool.not_false, kisS_none, kisS_bool, kisS_int, kisS_str, kisS_list, kisS_tuple, kisS_dict, kisT_none, kisT_bool, kisT_int, kisT_str, kisT_list, kisT_tuple, kisT_dict, kisL_none, kisL_bool, kisL_int, kisL_str, kisL_list, kisL_tuple, kisL_dict, kisB_none, kisB_bool, kisB_int, kisB_str, kisB_list, kisB_tuple, kisB_dict, kisI_none, kisI_bool, kisI_int, kisI_str, kisI_list, kisI_tuple, kisI_dict, kisIB_none, kisIB_bool, kisIB_int, kisIB_str, kisIB_list, kisIB_tuple, kisIB_dict, kisD_none, kisD_bool, kisD_int, kisD_str, kisD_list, kisD_tuple, kisD_dict, rEqU, rNeU, rAdd_1, rAdd_2, rAdd_3, rAdd_4, rSub_1, rMul_1, rMul_2, rMul_3, rDiv_1, rMod_1, rPow_1, rNeg_1, rLt_1, rLe_1, rLe_2, rGt_1, rGe_1, rIs_1, rIs_2, rIsNot_1, rIsNot_2, rMem_1, rItem_1, rItem_2, rStore_1, rLen_1, rLen_2, rInt_1, rInt_2, rMax_1, rMin_1, rList_1, rTuple_1, rAbs_1, rIsi_1, rSlice_1, rSlice_2, mAppend_1, mExtend_1, mPop_1, mPop_2, mInsert_1, mUpper_1, rInT_1, eqR_rr, eqR_rs, eqR_ri, eqR_rb, eqR_rn, eqR_sr, eqR_ir, eqR_br, eqR_nr, isCol_l, isCol_t, isCol_d, isSeq_l, isSeq_t, iAny, wipe, tYes, List.isEmpty_nil, List.isEmpty_cons, truN_non, truN_bl, truN_int, tyN_non, tyN_bl, tyN_int, tyN_str, keyOf, scal_nn, scal_nb, scal_ni, scal_ns, scal_nr, scal_bn, scal_bb, scal_bs, scal_br, scal_in, scal_ii, scal_is, scal_ir, scal_sn, scal_sb, scal_si, scal_ss, scal_sr, scal_rn, scal_rb, scal_ri, scal_rs, scal_rr, decide_true, decide_false, List.map_cons, List.map_nil, List.set_cons_zero, List.set_cons_succ, List.getElem?_cons_zero, List.getElem?_cons_succ, List.getElem?_nil, exists_eq_left, exists_eq_left', V.bl.injEq, V.int.injEq, V.str.injEq, V.ref.injEq, if_true, if_false, ite_true, ite_false, Bool.false_eq_true, eq_self, true_and, and_true, decide_eq_true_eq]
    exact k
  · have e : isVal d = false := by cases d <;> first | exact absurd rfl hs | rfl
    rw [e] at k
    exact k
end
end Rm
namespace Rm
open PySem PySem.Spec L2
open PyProof.Rows hiding St
abbrev s_is_request : Stmt := topS 17
theorem sc_is_request : FnScope ["value"] ["value"] (defScope s_is_request) := ⟨rfl, rfl, rfl, by decide +kernel, rfl, by decide +kernel, by decide +kernel⟩
/-- lock or change, the operands behind the transaction -/
def isReq (w : Str) (r : List PyData) : Bool := match r with
  | [n, m] => decide (w = "lock") && (isNam n && inS modeWs m)
  | [n, m, x] => decide (w = "change") && (isNam n && (inS changeWs m && isVal x))
  | _ => false
def sp_is_request : Sp := fun vs H Q _ => ∃ (a : Addr) (w : Str) (t : PyData) (r : List PyData), vs = [.ref a] ∧ Dr H (.ref a) (.tuple (.str w :: t :: r)) ∧ (∀ d ∈ r, txtOk d) ∧ ∀ H', Ext H H' → Q (.bl (isReq w r)) H'
section
variable {P : Program} {w : World} {K : PySem.W.Frag} {mg : Str → Option Value} {base : Heap}
theorem ok_is_request {f0 : Addr} {fd0 : FuncData} (F : At K mg "is_request" "is_request" s_is_request ["value"] f0 fd0) (B : Bt mg)  (D_is_name : Def P w K mg base "is_name" ["value"] 1 sp_is_name) (D_is_mode : Def P w K mg base "is_mode" ["value"] 1 sp_is_mode) (D_is_change_mode : Def P w K mg base "is_change_mode" ["value"] 1 sp_is_change_mode) (D_is_value : Def P w K mg base "is_value" ["value"] 2 sp_is_value) : Def P w K mg base "is_request" ["value"] 3 sp_is_request := by
  refine okD F sc_is_request (fun vs H Q E h => by obtain ⟨_, _, _, _, rfl, _⟩ := h; rfl) (fun cdv A outer s H vs Q E hr tk po h => ?_)
  have hu := hu_of hr
  have hu64 := hr.units
  have hc := (show (true : Bool) = true from rfl)
  have nd := sc_is_request.nd
  refine ⟨_, (pss_cons (ps_if (PW.pt (pw_and (pt_cmpR (opEq hu64) (pe_ix (ixItem hu) (pn 0) pe_int (fun _ _ => rfl)) pe_str (nomark _)) (pw_and1 (pt_cmpR (opEq hu64) (pe_callB callLen (by rfl) B.len bt_len (pa_cons (pn 0) pa_nil)) pe_int (nomark _))))) (pss_one (ps_ret (pe_and (pe_fn D_is_name (hr.mono (by decide)) tk (pa_cons (pe_ix (ixItem hu) (pn 0) pe_int (fun _ _ => rfl)) pa_nil)) (pe_one (pe_fn D_is_mode (hr.mono (by decide)) tk (pa_cons (pe_ix (ixItem hu) (pn 0) pe_int (fun _ _ => rfl)) pa_nil)))))) pss_nil)
      (pss_cons (ps_if (PW.pt (pw_and (pt_cmpR (opEq hu64) (pe_ix (ixItem hu) (pn 0) pe_int (fun _ _ => rfl)) pe_str (nomark _)) (pw_and1 (pt_cmpR (opEq hu64) (pe_callB callLen (by rfl) B.len bt_len (pa_cons (pn 0) pa_nil)) pe_int (nomark _))))) (pss_one (ps_ret (pe_and (pe_fn D_is_name (hr.mono (by decide)) tk (pa_cons (pe_ix (ixItem hu) (pn 0) pe_int (fun _ _ => rfl)) pa_nil)) (pe_and (pe_fn D_is_change_mode (hr.mono (by decide)) tk (pa_cons (pe_ix (ixItem hu) (pn 0) pe_int (fun _ _ => rfl)) pa_nil)) (pe_one (pe_fn D_is_value (hr.mono (by decide)) tk (pa_cons (pe_ix (ixItem hu) (pn 0) pe_int (fun _ _ => rfl)) pa_nil))))))) pss_nil)
      (pss_one (ps_ret pe_bl)))), ?_⟩
  clear hu hu64 hc nd tk po hr B D_is_name D_is_mode D_is_change_mode D_is_value
  obtain ⟨a, w, t, r, rfl, hd, hz, k⟩ := h
  rw [show L2.start _ _ = [some (.ref a)] from rfl]
  have no : isReq w r = false → Q (.bl false) H := fun e => e ▸ k H (Ext.refl H)
  cases hd with
  | @tup _ xs _ e A =>
  cases A with
  | @cons v0 xs _ _ D0 A =>
  cases A with
  | @cons v1 xs _ _ D1 A =>
  obtain rfl := dr_str D0
  have hl := A.length
  have a0 : atI (V.str w :: v1 :: xs) 0 = some (.str w) := atI_nat (j := 0) rfl
  have hlen : ((V.str w :: v1 :: xs).length : Int) = (r.length : Int) + 2 := by simp only [List.length_cons]; omega
  refine sq fun N hN => ?_
  suffices go : ¬ (w = "lock" ∧ r.length = 2) → N [some (.ref a)] H by
    simp only [tSeq, tIfS, tTest, tOp, tV, tC, tAsg, gName, gSub, tRet, tRetN, tCB, tCons, tNil, tDrop, tNext, tAnd, tOr, tNot, tAndV, tOrV, tNotV, tIf, tTru, tUn, tCallS, WE, tTup, tLst, tSl, tPart, tNoPart, tPar, tChain, tBM, tBM0, tM0, tM1, gTup, gCons, gNil, tInC, gC, gN, tCallK, tCst, tRevL, ok_str, ok_int, ok_bool, ok_tuple, ok_list, ok_dict, sub_str, sub_tup, sub_lst, sub_bool, sub_int, sub_dict, Bool.not_true, Bool.not_false, kisS_none, kisS_bool, kisS_int, kisS_str, kisS_list, kisS_tuple, kisS_dict, kisT_none, kisT_bool, kisT_int, kisT_str, kisT_list, kisT_tuple, kisT_dict, kisL_none, kisL_bool, kisL_int, kisL_str, kisL_list, kisL_tuple, kisL_dict, kisB_none, kisB_bool, kisB_int, kisB_str, kisB_list, kisB_tuple, kisB_dict, kisI_none, kisI_bool, kisI_int, kisI_str, kisI_list, kisI_tuple, kisI_dict, kisIB_none, kisIB_bool, kisIB_int, kisIB_str, kisIB_list, kisIB_tuple, kisIB_dict, kisD_none, kisD_bool, kisD_int, kisD_str, kisD_list, kisD_tuple, kisD_dict, rEqU, rNeU, rAdd_1, rAdd_2, rAdd_3, rAdd_4, rSub_1, rMul_1, rMul_2, rMul_3, rDiv_1, rMod_1, rPow_1, rNeg_1, rLt_1, rLe_1, rLe_2, rGt_1, rGe_1, rIs_1, rIs_2, rIsNot_1, rIsNot_2, rMem_1, rItem_1, rItem_2, rStore_1, rLen_1, rLen_2, rInt_1, rInt_2, rMax_1, rMin_1, rList_1, rTuple_1, rAbs_1, rIsi_1, rSlice_1, rSlice_2, mAppend_1, mExtend_1, mPop_1, mPop_2, mInsert_1, mUpper_1, rInT_1, eqR_rr, eqR_rs, eqR_ri, eqR_rb, eqR_rn, eqR_sr, eqR_ir, eqR_br, eqR_nr, isCol_l, isCol_t, isCol_d, isSeq_l, isSeq_t, iAny, wipe, tYes, List.isEmpty_nil, List.isEmpty_cons, truN_non, truN_bl, truN_int, tyN_non, tyN_bl, tyN_int, tyN_str, keyOf, scal_nn, scal_nb, scal_ni, scal_ns, scal_nr, scal_bn, scal_bb, scal_bs, scal_br, scal_in, scal_ii, scal_is, scal_ir, scal_sn, scal_sb, scal_si, scal_ss, scal_sr, scal_rn, scal_rb, scal_ri, scal_rs, scal_rr, decide_true, decide_false, List.map_cons, List.map_nil, List.set_cons_zero, List.set_cons_succ, List.getElem?_cons_zero, List.getElem?_cons_succ, List.getElem?_nil, exists_eq_left, exists_eq_left', V.bl.injEq, V.int.injEq, V.str.injEq, V.ref.injEq, if_true, if_false, ite_true, ite_false, Bool.false_eq_true, eq_self, true_and, and_true, decide_eq_true_eq, e, a0, hlen]
    refine ite2 (fun hw => ite2 (fun h2 => ?_) (fun h2 => go (fun z => by omega))) (fun hw => go (fun z => hw z.1))
    obtain ⟨n, m, rfl⟩ : ∃ n m, r = [n, m] := by
      match r, (show r.length = 2 by omega) with
      | [n, m], _ => exact ⟨n, m, rfl⟩
    simp only [isReq, hw, decide_true, Bool.true_and] at k
    cases A with
    | @cons v2 xs _ _ D2 A =>
    cases A with
    | @cons v3 xs _ _ D3 A =>
    cases A
    have a2 : atI [V.str w, v1, v2, v3] 2 = some v2 := rfl
    have a3 : atI [V.str w, v1, v2, v3] 3 = some v3 := rfl
    simp only [a2]
    refine ⟨v2, n, rfl, D2, hz n (by simp), fun H1 x1 => ?_⟩
    simp only [tSeq, tIfS, tTest, tOp, tV, tC, tAsg, gName, gSub, tRet, tRetN, tCB, tCons, tNil, tDrop, tNext, tAnd, tOr, tNot, tAndV, tOrV, tNotV, tIf, tTru, tUn, tCallS, WE, tTup, tLst, tSl, tPart, tNoPart, tPar, tChain, tBM, tBM0, tM0, tM1, gTup, gCons, gNil, tInC, gC, gN, tCallK, tCst, tRevL, ok_str, ok_int, ok_bool, ok_tuple, ok_list, ok_dict, sub_str, sub_tup, sub_lst, sub_bool, sub_int, sub_dict, Bool.not_true, Bool.not_false, kisS_none, kisS_bool, kisS_int, kisS_str, kisS_list, kisS_tuple, kisS_dict, kisT_none, kisT_bool, kisT_int, kisT_str, kisT_list, kisT_tuple, kisT_dict, kisL_none, kisL_bool, kisL_int, kisL_str, kisL_list, kisL_tuple, kisL_dict, kisB_none, kisB_bool, kisB_int, kisB_str, kisB_list, kisB_tuple, kisB_dict, kisI_none, kisI_bool, kisI_int, kisI_str, kisI_list, kisI_tuple, kisI_dict, kisIB_none, kisIB_bool, kisIB_int, kisIB_str, kisIB_list, kisIB_tuple, kisIB_dict, kisD_none, kisD_bool, kisD_int, kisD_str, kisD_list, kisD_tuple, kisD_dict, rEqU, rNeU, rAdd_1, rAdd_2, rAdd_3, rAdd_4, rSub_1, rMul_1, rMul_2, rMul_3, rDiv_1, rMod_1, rPow_1, rNeg_1, rLt_1, rLe_1, rLe_2, rGt_1, rGe_1, rIs_1, rIs_2, rIsNot_1, rIsNot_2, rMem_1, rItem_1, rItem_2, rStore_1, rLen_1, rLen_2, rInt_1, rInt_2, rMax_1, rMin_1, rList_1, rTuple_1, rAbs_1, rIsi_1, rSlice_1, rSlice_2, mAppend_1, mExtend_1, mPop_1, mPop_2, mInsert_1, mUpper_1, rInT_1, eqR_rr, eqR_rs, eqR_ri, eqR_rb, eqR_rn, eqR_sr, eqR_ir, eqR_br, eqR_nr, isCol_l, isCol_t, isCol_d, isSeq_l, isSeq_t, iAny, wipe, tYes, List.isEmpty_nil, List.isEmpty_cons, truN_non, truN_bl, truN_int, tyN_non, tyN_bl, tyN_int, tyN_str, keyOf, scal_nn, scal_nb, scal_ni, scal_ns, scal_nr, scal_bn, scal_bb, scal_bs, scal_br, scal_in, scal_ii, scal_is, scal_ir, scal_sn, scal_sb, scal_si, scal_ss, scal_sr, scal_rn, scal_rb, scal_ri, scal_rs, scal_rr, decide_true, decide_false, List.map_cons, List.map_nil, List.set_cons_zero, List.set_cons_succ, List.getElem?_cons_zero, List.getElem?_cons_succ, List.getElem?_nil, exists_eq_left, exists_eq_left', V.bl.injEq, V.int.injEq, V.str.injEq, V.ref.injEq, if_true, if_false, ite_true, ite_false, Bool.false_eq_true, eq_self, true_and, and_true, decide_eq_true_eq]
    refine ite2 (fun h3 => ?_) (fun h3 => ?_)
    · simp only [rdo_ext e x1, a3]
      refine ⟨v3, m, rfl, D3.ext x1, ?_⟩
      rw [h3, Bool.true_and] at k
      exact k _ x1
    · rw [not_isT' h3, Bool.false_and] at k
      exact k _ x1
  intro nl
  refine hN _ _ ?_; clear hN N
  refine sq fun N hN => ?_
  suffices go : ¬ (w = "change" ∧ r.length = 3) → N [some (.ref a)] H by
    simp only [tSeq, tIfS, tTest, tOp, tV, tC, tAsg, gName, gSub, tRet, tRetN, tCB, tCons, tNil, tDrop, tNext, tAnd, tOr, tNot, tAndV, tOrV, tNotV, tIf, tTru, tUn, tCallS, WE, tTup, tLst, tSl, tPart, tNoPart, tPar, tChain, tBM, tBM0, tM0, tM1, gTup, gCons, gNil, tInC, gC, gN, tCallK, tCst, tRevL, ok_str, ok_int, ok_bool, ok_tuple, ok_list, ok_dict, sub_str, sub_tup, sub_lst, sub_bool, sub_int, sub_dict, Bool.not_true, Bool.not_false, kisS_none, kisS_bool, kisS_int, kisS_str, kisS_list, kisS_tuple, kisS_dict, kisT_none, kisT_bool, kisT_int, kisT_str, kisT_list, kisT_tuple, kisT_dict, kisL_none, kisL_bool, kisL_int, kisL_str, kisL_list, kisL_tuple, kisL_dict, kisB_none, kisB_bool, kisB_int, kisB_str, kisB_list, kisB_tuple, kisB_dict, kisI_none, kisI_bool, kisI_int, kisI_str, kisI_list, kisI_tuple, kisI_dict, kisIB_none, kisIB_bool, kisIB_int, kisIB_str, kisIB_list, kisIB_tuple, kisIB_dict, kisD_none, kisD_bool, kisD_int, kisD_str, kisD_list, kisD_tuple, kisD_dict, rEqU, rNeU, rAdd_1, rAdd_2, rAdd_3, rAdd_4, rSub_1, rMul_1, rMul_2, rMul_3, rDiv_1, rMod_1, rPow_1, rNeg_1, rLt_1, rLe_1, rLe_2, rGt_1, rGe_1, rIs_1, rIs_2, rIsNot_1, rIsNot_2, rMem_1, rItem_1, rItem_2, rStore_1, rLen_1, rLen_2, rInt_1, rInt_2, rMax_1, rMin_1, rList_1, rTuple_1, rAbs_1, rIsi_1, rSlice_1, rSlice_2, mAppend_1, mExtend_1, mPop_1, mPop_2, mInsert_1, mUpper_1, rInT_1, eqR_rr, eqR_rs, eqR_ri, eqR_rb, eqR_rn, eqR_sr, eqR_ir, eqR_br, eqR_nr, isCol_l, isCol_t, isCol_d, isSeq_l, isSeq_t, iAny, wipe, tYes, List.isEmpty_nil, List.isEmpty_cons, truN_non, truN_bl, truN_int, tyN_non, tyN_bl, tyN_int, tyN_str, keyOf, scal_nn, scal_nb, scal_ni, scal_ns, scal_nr, scal_bn, scal_bb, scal_bs, scal_br, scal_in, scal_ii, scal_is, scal_ir, scal_sn, scal_sb, scal_si, scal_ss, scal_sr, scal_rn, scal_rb, scal_ri, scal_rs, scal_rr, decide_true, decide_false, List.map_cons, List.map_nil, List.set_cons_zero, List.set_cons_succ, List.getElem?_cons_zero, List.getElem?_cons_succ, List.getElem?_nil, exists_eq_left, exists_eq_left', V.bl.injEq, V.int.injEq, V.str.injEq, V.ref.injEq, if_true, if_false, ite_true, ite_false, Bool.false_eq_true, eq_self, true_and, and_true, decide_eq_true_eq, e, a0, hlen]
    refine ite2 (fun hw => ite2 (fun h2 => ?_) (fun h2 => go (fun z => by omega))) (fun hw => go (fun z => hw z.1))
    obtain ⟨n, m, x, rfl⟩ : ∃ n m x, r = [n, m, x] := by
      match r, (show r.length = 3 by omega) with
      | [n, m, x], _ => exact ⟨n, m, x, rfl⟩
    simp only [isReq, hw, decide_true, Bool.true_and] at k
    cases A with
    | @cons v2 xs _ _ D2 A =>
    cases A with
    | @cons v3 xs _ _ D3 A =>
    cases A with
    | @cons v4 xs _ _ D4 A =>
    cases A
    have a2 : atI [V.str w, v1, v2, v3, v4] 2 = some v2 := rfl
    have a3 : atI [V.str w, v1, v2, v3, v4] 3 = some v3 := rfl
    have a4 : atI [V.str w, v1, v2, v3, v4] 4 = some v4 := rfl
    simp only [a2]
    refine ⟨v2, n, rfl, D2, hz n (by simp), fun H1 x1 => ?_⟩
    simp only [tSeq, tIfS, tTest, tOp, tV, tC, tAsg, gName, gSub, tRet, tRetN, tCB, tCons, tNil, tDrop, tNext, tAnd, tOr, tNot, tAndV, tOrV, tNotV, tIf, tTru, tUn, tCallS, WE, tTup, tLst, tSl, tPart, tNoPart, tPar, tChain, tBM, tBM0, tM0, tM1, gTup, gCons, gNil, tInC, gC, gN, tCallK, tCst, tRevL, ok_str, ok_int, ok_bool, ok_tuple, ok_list, ok_dict, sub_str, sub_tup, sub_lst, sub_bool, sub_int, sub_dict, Bool.not_true, Bool.not_false, kisS_none, kisS_bool, kisS_int, kisS_str, kisS_list, kisS_tuple, kisS_dict, kisT_none, kisT_bool, kisT_int, kisT_str, kisT_list, kisT_tuple, kisT_dict, kisL_none, kisL_bool, kisL_int, kisL_str, kisL_list, kisL_tuple, kisL_dict, kisB_none, kisB_bool, kisB_int, kisB_str, kisB_list, kisB_tuple, kisB_dict, kisI_none, kisI_bool, kisI_int, kisI_str, kisI_list, kisI_tuple, kisI_dict, kisIB_none, kisIB_bool, kisIB_int, kisIB_str, kisIB_list, kisIB_tuple, kisIB_dict, kisD_none, kisD_bool, kisD_int, kisD_str, kisD_list, kisD_tuple, kisD_dict, rEqU, rNeU, rAdd_1, rAdd_2, rAdd_3, rAdd_4, rSub_1, rMul_1, rMul_2, rMul_3, rDiv_1, rMod_1, rPow_1, rNeg_1, rLt_1, rLe_1, rLe_2, rGt_1, rGe_1, rIs_1, rIs_2, rIsNot_1, rIsNot_2, rMem_1, rItem_1, rItem_2, rStore_1, rLen_1, rLen_2, rInt_1, rInt_2, rMax_1, rMin_1, rList_1, rTuple_1, rAbs_1, rIsi_1, rSlice_1, rSlice_2, mAppend_1, mExtend_1, mPop_1, mPop_2, mInsert_1, mUpper_1, rInT_1, eqR_rr, eqR_rs, eqR_ri, eqR_rb, eqR_rn, eqR_sr, eqR_ir, eqR_br, eqR_nr, isCol_l, isCol_t, isCol_d, isSeq_l, isSeq_t, iAny, wipe, tYes, List.isEmpty_nil, List.isEmpty_cons, truN_non, truN_bl, truN_int, tyN_non, tyN_bl, tyN_int, tyN_str, keyOf, scal_nn, scal_nb, scal_ni, scal_ns, scal_nr, scal_bn, scal_bb, scal_bs, scal_br, scal_in, scal_ii, scal_is, scal_ir, scal_sn, scal_sb, scal_si, scal_ss, scal_sr, scal_rn, scal_rb, scal_ri, scal_rs, scal_rr, decide_true, decide_false, List.map_cons, List.map_nil, List.set_cons_zero, List.set_cons_succ, List.getElem?_cons_zero, List.getElem?_cons_succ, List.getElem?_nil, exists_eq_left, exists_eq_left', V.bl.injEq, V.int.injEq, V.str.injEq, V.ref.injEq, if_true, if_false, ite_true, ite_false, Bool.false_eq_true, eq_self, true_and, and_true, decide_eq_true_eq]
    refine ite2 (fun h3 => ?_) (fun h3 => ?_)
    · simp only [rdo_ext e x1, a3]
      rw [h3, Bool.true_and] at k
      refine ⟨v3, m, rfl, D3.ext x1, fun H2 x2 => ?_⟩
      simp only [tSeq, tIfS, tTest, tOp, tV, tC, tAsg, gName, gSub, tRet, tRetN, tCB, tCons, tNil, tDrop, tNext, tAnd, tOr, tNot, tAndV, tOrV, tNotV, tIf, tTru, tUn, tCallS, WE, tTup, tLst, tSl, tPart, tNoPart, tPar, tChain, tBM, tBM0, tM0, tM1, gTup, gCons, gNil, tInC, gC, gN, tCallK, tCst, tRevL, ok_str, ok_int, ok_bool, ok_tuple, ok_list, ok_dict, sub_str, sub_tup, sub_lst, sub_bool, sub_int, sub_dict, Bool.not_true, Bool.not_false, kisS_none, kisS_bool, kisS_int, kisS_str, kisS_list, kisS_tuple, kisS_dict, kisT_none, kisT_bool, kisT_int, kisT_str, kisT_list, kisT_tuple, kisT_dict, kisL_none, kisL_bool, kisL_int, kisL_str, kisL_list, kisL_tuple, kisL_dict, kisB_none, kisB_bool, kisB_int, kisB_str, kisB_list, kisB_tuple, kisB_dict, kisI_none, kisI_bool, kisI_int, kisI_str, kisI_list, kisI_tuple, kisI_dict, kisIB_none, kisIB_bool, kisIB_int, kisIB_str, kisIB_list, kisIB_tuple, kisIB_dict, kisD_none, kisD_bool, kisD_int, kisD_str, kisD_list, kisD_tuple, kisD_dict, rEqU, rNeU, rAdd_1, rAdd_2, rAdd_3, rAdd_4, rSub_1, rMul_1, rMul_2, rMul_3, rDiv_1, rMod_1, rPow_1, rNeg_1, rLt_1, rLe_1, rLe_2, rGt_1, rGe_1, rIs_1, rIs_2, rIsNot_1, rIsNot_2, rMem_1, rItem_1, rItem_2, rStore_1, rLen_1, rLen_2, rInt_1, rInt_2, rMax_1, rMin_1, rList_1, rTuple_1, rAbs_1, rIsi_1, rSlice_1, rSlice_2, mAppend_1, mExtend_1, mPop_1, mPop_2, mInsert_1, mUpper_1, rInT_1, eqR_rr, eqR_rs, eqR_ri, eqR_rb, eqR_rn, eqR_sr, eqR_ir, eqR_br, eqR_nr, isCol_l, isCol_t, isCol_d, isSeq_l, isSeq_t, iAny, wipe, tYes, List.isEmpty_nil, List.isEmpty_cons, truN_non, truN_bl, truN_int, tyN_non, tyN_bl, tyN_int, tyN_str, keyOf, scal_nn, scal_nb, scal_ni, scal_ns, scal_nr, scal_bn, scal_bb, scal_bs, scal_br, scal_in, scal_ii, scal_is, scal_ir, scal_sn, scal_sb, scal_si, scal_ss, scal_sr, scal_rn, scal_rb, scal_ri, scal_rs, scal_rr, decide_true, decide_false, List.map_cons, List.map_nil, List.set_cons_zero, List.set_cons_succ, List.getElem?_cons_zero, List.getElem?_cons_succ, List.getElem?_nil, exists_eq_left, exists_eq_left', V.bl.injEq, V.int.injEq, V.str.injEq, V.ref.injEq, if_true, if_false, ite_true, ite_false, Bool.false_eq_true, eq_self, true_and, and_true, decide_eq_true_eq]
      refine ite2 (fun h4 => ?_) (fun h4 => ?_)
      · simp only [rdo_ext (rdo_ext e x1) x2, a4]
        rw [h4, Bool.true_and] at k
        exact ⟨v4, x, rfl, (D4.ext x1).ext x2, k _ (x1.trans x2)⟩
      · rw [not_isT' h4, Bool.false_and] at k
        exact k _ (x1.trans x2)
    · rw [not_isT' h3, Bool.false_and] at k
      exact k _ x1
  intro nc
  refine hN _ _ ?_; clear hN N
  simp only [tSeq, tIfS, tTest, tOp, tV, tC, tAsg, gName, gSub, tRet, tRetN, tCB, tCons, tNil, tDrop, tNext, tAnd, tOr, tNot, tAndV, tOrV, tNotV, tIf, tTru, tUn, tCallS, WE, tTup, tLst, tSl, tPart, tNoPart, tPar, tChain, tBM, tBM0, tM0, tM1, gTup, gCons, gNil, tInC, gC, gN, tCallK, tCst, tRevL, ok_str, ok_int, ok_bool, ok_tuple, ok_list, ok_dict, sub_str, sub_tup, sub_lst, sub_bool, sub_int, sub_dict, Bool.not_true, Bool.not_false, kisS_none, kisS_bool, kisS_int, kisS_str, kisS_list, kisS_tuple, kisS_dict, kisT_none, kisT_bool, kisT_int, kisT_str, kisT_list, kisT_tuple, kisT_dict, kisL_none, kisL_bool, kisL_int, kisL_str, kisL_list, kisL_tuple, kisL_dict, kisB_none, kisB_bool, kisB_int, kisB_str, kisB_list, kisB_tuple, kisB_dict, kisI_none, kisI_bool, kisI_int, kisI_str, kisI_list, kisI_tuple, kisI_dict, kisIB_none, kisIB_bool, kisIB_int, kisIB_str, kisIB_list, kisIB_tuple, kisIB_dict, kisD_none, kisD_bool, kisD_int, kisD_str, kisD_list, kisD_tuple, kisD_dict, rEqU, rNeU, rAdd_1, rAdd_2, rAdd_3, rAdd_4, rSub_1, rMul_1, rMul_2, rMul_3, rDiv_1, rMod_1, rPow_1, rNeg_1, rLt_1, rLe_1, rLe_2, rGt_1, rGe_1, rIs_1, rIs_2, rIsNot_1, rIsNot_2, rMem_1, rItem_1, rItem_2, rStore_1, rLen_1, rLen_2, rInt_1, rInt_2, rMax_1, rMin_1, rList_1, rTuple_1, rAbs_1, rIsi_1, rSlice_1, rSlice_2, mAppend_1, mExtend_1, mPop_1, mPop_2, mInsert_1, mUpper_1, rInT_1, eqR_rr, eqR_rs, eqR_ri, eqR_rb, eqR_rn, eqR_sr, eqR_ir, eqR_br, eqR_nr, isCol_l, isCol_t, isCol_d, isSeq_l, isSeq_t, iAny, wipe, tYes, List.isEmpty_nil, List.isEmpty_cons, truN_non, truN_bl, truN_int, tyN_non, tyN_bl, tyN_int, tyN_str, keyOf, scal_nn, scal_nb, scal_ni, scal_ns, scal_nr, scal_bn, scal_bb, scal_bs, scal_br, scal_in, scal_ii, scal_is, scal_ir, scal_sn, scal_sb, scal_si, scal_ss, scal_sr, scal_rn, scal_rb, scal_ri, scal_rs, scal_rr, decide_true, decide_false, List.map_cons, List.map_nil, List.set_cons_zero, List.set_cons_succ, List.getElem?_cons_zero, List.getElem?_cons_succ, List.getElem?_nil, exists_eq_left, exists_eq_left', V.bl.injEq, V.int.injEq, V.str.injEq, V.ref.injEq, if_true, if_false, ite_true, ite_false, Bool.false_eq_true, eq_self, true_and, and_true, decide_eq_true_eq]
  refine no ?_
  match r, nl, nc with
  | [], _, _ => rfl
  | [_], _, _ => rfl
  | [n, m], nl, _ =>
    have : decide (w = "lock") = false := decide_eq_false fun z => nl ⟨z, rfl⟩
    simp only [isReq, this, Bool.false_and]
  | [n, m, x], _, nc =>
    have : decide (w = "change") = false := decide_eq_false fun z => nc ⟨z, rfl⟩
    simp only [isReq, this, Bool.false_and]
  | _ :: _ :: _ :: _ :: _, _, _ => rfl
end
end Rm
namespace Rm
open PySem PySem.Spec L2
open PyProof.Rows hiding St
abbrev s_is_operation : Stmt := topS 18
theorem sc_is_operation : FnScope ["value"] ["value"] (defScope s_is_operation) := ⟨rfl, rfl, rfl, by decide +kernel, rfl, by decide +kernel, by decide +kernel⟩
def aloneWs : List Str := ["begin", "crash", "clean"]
def numWs : List Str := ["save", "release", "back", "commit", "abort", "prepare"]
def inWs (ws : List Str) (w : Str) : Bool := ws.any fun x => decide (x = w)
def isOp (d : PyData) : Bool := match d with
  | .tuple (.str w :: r) => if inWs aloneWs w = true then decide (r.length = 0) else match r with
    | [] => false
    | t :: r => if w = "horizon" then decide (r.length = 0) && fromTo 0 60 t else fromTo 1 1000000 t && (if inWs numWs w = true then decide (r.length = 0) else isReq w r)
  | _ => false
def allTxt (d : PyData) : Prop := ∀ ds, d = .tuple ds → ∀ x ∈ ds, txtOk x
def sp_is_operation : Sp := fun vs H Q _ => ∃ v d, vs = [v] ∧ Dr H v d ∧ allTxt d ∧ ∀ H', Ext H H' → Q (.bl (isOp d)) H'
section
variable {P : Program} {w : World} {K : PySem.W.Frag} {mg : Str → Option Value} {base : Heap}
theorem ok_is_operation {f0 : Addr} {fd0 : FuncData} (F : At K mg "is_operation" "is_operation" s_is_operation ["value"] f0 fd0) (B : Bt mg)  (C_ALONE : Cst K mg "ALONE" [(V.str "begin"), (V.str "crash"), (V.str "clean")]) (C_MOST_NUMBER : ∃ t, mg "MOST_NUMBER" = some (.int (1000000) t)) (C_NUMBERED : Cst K mg "NUMBERED" [(V.str "save"), (V.str "release"), (V.str "back"), (V.str "commit"), (V.str "abort"), (V.str "prepare")]) (C_MOST_OPERATIONS : ∃ t, mg "MOST_OPERATIONS" = some (.int (60) t)) (D_is_from_to : Def P w K mg base "is_from_to" ["value", "least", "most"] 2 sp_is_from_to) (D_is_request : Def P w K mg base "is_request" ["value"] 3 sp_is_request) : Def P w K mg base "is_operation" ["value"] 4 sp_is_operation := by
  refine okD F sc_is_operation (fun vs H Q E h => by obtain ⟨_, _, rfl, _⟩ := h; rfl) (fun cdv A outer s H vs Q E hr tk po h => ?_)
  have hu := hu_of hr
  have hu64 := hr.units
  have hc := (show (true : Bool) = true from rfl)
  have nd := sc_is_operation.nd
  refine ⟨_, (pss_cons (ps_if (PW.pt (pw_or (pt_not (pt_tru (pe_callB callIsi (by rfl) B.isinstance boot_isinstance (pa_cons (pn 0) (pa_cons (pe_bltn (v := .ty "tuple") (by rfl) B.tuple boot_tuple rfl) pa_nil))))) (pw_or (pt_cmpR (opEq hu64) (pn 0) (pe_tup pa_nil) (nomark _)) (pw_or1 (pt_not (pt_tru (pe_callB callIsi (by rfl) B.isinstance boot_isinstance (pa_cons (pe_ix (ixItem hu) (pn 0) pe_int (fun _ _ => rfl)) (pa_cons (pe_bltn (v := .ty "str") (by rfl) B.str boot_str rfl) pa_nil))))))))) (pss_one (ps_ret pe_bl)) pss_nil)
      (pss_cons (ps_if (pt_inC (pe_ix (ixItem hu) (pn 0) pe_int (fun _ _ => rfl)) (pc_cst C_ALONE) gC_m) (pss_one (ps_ret (pe_cmpR (opEq hu64) (pe_callB callLen (by rfl) B.len bt_len (pa_cons (pn 0) pa_nil)) pe_int (nomark _)))) pss_nil)
      (pss_cons (ps_if (pt_cmpR opLt (pe_callB callLen (by rfl) B.len bt_len (pa_cons (pn 0) pa_nil)) pe_int (nomark _)) (pss_one (ps_ret pe_bl)) pss_nil)
      (pss_cons (ps_if (pt_cmpR (opEq hu64) (pe_ix (ixItem hu) (pn 0) pe_int (fun _ _ => rfl)) pe_str (nomark _)) (pss_one (ps_ret (pe_and (pe_cmpR (opEq hu64) (pe_callB callLen (by rfl) B.len bt_len (pa_cons (pn 0) pa_nil)) pe_int (nomark _)) (pe_one (pe_fn D_is_from_to (hr.mono (by decide)) tk (pa_cons (pe_ix (ixItem hu) (pn 0) pe_int (fun _ _ => rfl)) (pa_cons pe_int (pa_cons (pe_g C_MOST_OPERATIONS) pa_nil)))))))) pss_nil)
      (pss_cons (ps_if (pt_not (pt_tru (pe_fn D_is_from_to (hr.mono (by decide)) tk (pa_cons (pe_ix (ixItem hu) (pn 0) pe_int (fun _ _ => rfl)) (pa_cons pe_int (pa_cons (pe_g C_MOST_NUMBER) pa_nil)))))) (pss_one (ps_ret pe_bl)) pss_nil)
      (pss_one (ps_ret (pe_ifExp (pt_inC (pe_ix (ixItem hu) (pn 0) pe_int (fun _ _ => rfl)) (pc_cst C_NUMBERED) gC_m) (pe_cmpR (opEq hu64) (pe_callB callLen (by rfl) B.len bt_len (pa_cons (pn 0) pa_nil)) pe_int (nomark _)) (pe_fn D_is_request (hr.mono (by decide)) tk (pa_cons (pn 0) pa_nil)))))))))), ?_⟩
  clear hu hu64 hc nd tk po hr B D_is_from_to D_is_request C_ALONE C_MOST_NUMBER C_NUMBERED C_MOST_OPERATIONS
  obtain ⟨v, d, rfl, hd, hz, k⟩ := h
  rw [show L2.start _ _ = [some v] from rfl]
  have no : isOp d = false → ∀ H', Ext H H' → Q (.bl false) H' := fun e H' x => e ▸ k H' x
  refine sq fun N hN => ?_
  by_cases hT : isT d = true
  rotate_left
  · simp only [tSeq, tIfS, tTest, tOp, tV, tC, tAsg, gName, gSub, tRet, tRetN, tCB, tCons, tNil, tDrop, tNext, tAnd, tOr, tNot, tAndV, tOrV, tNotV, tIf, tTru, tUn, tCallS, WE, tTup, tLst, tSl, tPart, tNoPart, tPar, tChain, tBM, tBM0, tM0, tM1, gTup, gCons, gNil, tInC, gC, gN, tCallK, tCst, tRevL, ok_str, ok_int, ok_bool, ok_tuple, ok_list, ok_dict, sub_str, sub_tup, sub_lst, sub_bool, sub_int, sub_dict, Bool.not_true, Bool.not_false, kisS_none, kisS_bool, kisS_int, kisS_str, kisS_list, kisS_tuple, kisS_dict, kisT_none, kisT_bool, kisT_int, kisT_str, kisT_list, kisT_tuple, kisT_dict, kisL_none, kisL_bool, kisL_int, kisL_str, kisL_list, kisL_tuple, kisL_dict, kisB_none, kisB_bool, kisB_int, kisB_str, kisB_list, kisB_tuple, kisB_dict, kisI_none, kisI_bool, kisI_int, kisI_str, kisI_list, kisI_tuple, kisI_dict, kisIB_none, kisIB_bool, kisIB_int, kisIB_str, kisIB_list, kisIB_tuple, kisIB_dict, kisD_none, kisD_bool, kisD_int, kisD_str, kisD_list, kisD_tuple, kisD_dict, rEqU, rNeU, rAdd_1, rAdd_2, rAdd_3, rAdd_4, rSub_1, rMul_1, rMul_2, rMul_3, rDiv_1, rMod_1, rPow_1, rNeg_1, rLt_1, rLe_1, rLe_2, rGt_1, rGe_1, rIs_1, rIs_2, rIsNot_1, rIsNot_2, rMem_1, rItem_1, rItem_2, rStore_1, rLen_1, rLen_2, rInt_1, rInt_2, rMax_1, rMin_1, rList_1, rTuple_1, rAbs_1, rIsi_1, rSlice_1, rSlice_2, mAppend_1, mExtend_1, mPop_1, mPop_2, mInsert_1, mUpper_1, rInT_1, eqR_rr, eqR_rs, eqR_ri, eqR_rb, eqR_rn, eqR_sr, eqR_ir, eqR_br, eqR_nr, isCol_l, isCol_t, isCol_d, isSeq_l, isSeq_t, iAny, wipe, tYes, List.isEmpty_nil, List.isEmpty_cons, truN_non, truN_bl, truN_int, tyN_non, tyN_bl, tyN_int, tyN_str, keyOf, scal_nn, scal_nb, scal_ni, scal_ns, scal_nr, scal_bn, scal_bb, scal_bs, scal_br, scal_in, scal_ii, scal_is, scal_ir, scal_sn, scal_sb, scal_si, scal_ss, scal_sr, scal_rn, scal_rb, scal_ri, scal_rs, scal_rr, decide_true, decide_false, List.map_cons, List.map_nil, List.set_cons_zero, List.set_cons_succ, List.getElem?_cons_zero, List.getElem?_cons_succ, List.getElem?_nil, exists_eq_left, exists_eq_left', V.bl.injEq, V.int.injEq, V.str.injEq, V.ref.injEq, if_true, if_false, ite_true, ite_false, Bool.false_eq_true, eq_self, true_and, and_true, decide_eq_true_eq, tyN_dr hd, not_isT hT]
    exact no (by cases d <;> first | exact absurd rfl hT | rfl) H (Ext.refl H)
  obtain ⟨ds, rfl⟩ := of_isT hT
  have hz := hz ds rfl
  cases hd with
  | @tup a xs _ e A =>
  have hl := A.length
  simp only [tSeq, tIfS, tTest, tOp, tV, tC, tAsg, gName, gSub, tRet, tRetN, tCB, tCons, tNil, tDrop, tNext, tAnd, tOr, tNot, tAndV, tOrV, tNotV, tIf, tTru, tUn, tCallS, WE, tTup, tLst, tSl, tPart, tNoPart, tPar, tChain, tBM, tBM0, tM0, tM1, gTup, gCons, gNil, tInC, gC, gN, tCallK, tCst, tRevL, ok_str, ok_int, ok_bool, ok_tuple, ok_list, ok_dict, sub_str, sub_tup, sub_lst, sub_bool, sub_int, sub_dict, Bool.not_true, Bool.not_false, kisS_none, kisS_bool, kisS_int, kisS_str, kisS_list, kisS_tuple, kisS_dict, kisT_none, kisT_bool, kisT_int, kisT_str, kisT_list, kisT_tuple, kisT_dict, kisL_none, kisL_bool, kisL_int, kisL_str, kisL_list, kisL_tuple, kisL_dict, kisB_none, kisB_bool, kisB_int, kisB_str, kisB_list, kisB_tuple, kisB_dict, kisI_none, kisI_bool, kisI_int, kisI_str, kisI_list, kisI_tuple, kisI_dict, kisIB_none, kisIB_bool, kisIB_int, kisIB_str, kisIB_list, kisIB_tuple, kisIB_dict, kisD_none, kisD_bool, kisD_int, kisD_str, kisD_list, kisD_tuple, kisD_dict, rEqU, rNeU, rAdd_1, rAdd_2, rAdd_3, rAdd_4, rSub_1, rMul_1, rMul_2, rMul_3, rDiv_1, rMod_1, rPow_1, rNeg_1, rLt_1, rLe_1, rLe_2, rGt_1, rGe_1, rIs_1, rIs_2, rIsNot_1, rIsNot_2, rMem_1, rItem_1, rItem_2, rStore_1, rLen_1, rLen_2, rInt_1, rInt_2, rMax_1, rMin_1, rList_1, rTuple_1, rAbs_1, rIsi_1, rSlice_1, rSlice_2, mAppend_1, mExtend_1, mPop_1, mPop_2, mInsert_1, mUpper_1, rInT_1, eqR_rr, eqR_rs, eqR_ri, eqR_rb, eqR_rn, eqR_sr, eqR_ir, eqR_br, eqR_nr, isCol_l, isCol_t, isCol_d, isSeq_l, isSeq_t, iAny, wipe, tYes, List.isEmpty_nil, List.isEmpty_cons, truN_non, truN_bl, truN_int, tyN_non, tyN_bl, tyN_int, tyN_str, keyOf, scal_nn, scal_nb, scal_ni, scal_ns, scal_nr, scal_bn, scal_bb, scal_bs, scal_br, scal_in, scal_ii, scal_is, scal_ir, scal_sn, scal_sb, scal_si, scal_ss, scal_sr, scal_rn, scal_rb, scal_ri, scal_rs, scal_rr, decide_true, decide_false, List.map_cons, List.map_nil, List.set_cons_zero, List.set_cons_succ, List.getElem?_cons_zero, List.getElem?_cons_succ, List.getElem?_nil, exists_eq_left, exists_eq_left', V.bl.injEq, V.int.injEq, V.str.injEq, V.ref.injEq, if_true, if_false, ite_true, ite_false, Bool.false_eq_true, eq_self, true_and, and_true, decide_eq_true_eq, tyN_tup e, e]
  refine ⟨by show 0 ≤ sizeLine; decide, fun p hp => ?_⟩
  have x1 : Ext H (upd H p (.tup [])) := Ext.new hp
  have ep : rdo (upd H p (.tup [])) p = some (.tup []) := rdo_of upd_same (fun _ _ z => nomatch z)
  generalize upd H p (.tup []) = H1 at x1 ep ⊢
  replace e := rdo_ext e x1
  replace A := DrA.ext x1 A
  replace no : isOp (.tuple ds) = false → ∀ H', Ext H1 H' → Q (.bl false) H' := fun z H' y => no z H' (x1.trans y)
  replace k : ∀ H', Ext H1 H' → Q (.bl (isOp (.tuple ds))) H' := fun H' y => k H' (x1.trans y)
  clear hp x1
  simp only [tSeq, tIfS, tTest, tOp, tV, tC, tAsg, gName, gSub, tRet, tRetN, tCB, tCons, tNil, tDrop, tNext, tAnd, tOr, tNot, tAndV, tOrV, tNotV, tIf, tTru, tUn, tCallS, WE, tTup, tLst, tSl, tPart, tNoPart, tPar, tChain, tBM, tBM0, tM0, tM1, gTup, gCons, gNil, tInC, gC, gN, tCallK, tCst, tRevL, ok_str, ok_int, ok_bool, ok_tuple, ok_list, ok_dict, sub_str, sub_tup, sub_lst, sub_bool, sub_int, sub_dict, Bool.not_true, Bool.not_false, kisS_none, kisS_bool, kisS_int, kisS_str, kisS_list, kisS_tuple, kisS_dict, kisT_none, kisT_bool, kisT_int, kisT_str, kisT_list, kisT_tuple, kisT_dict, kisL_none, kisL_bool, kisL_int, kisL_str, kisL_list, kisL_tuple, kisL_dict, kisB_none, kisB_bool, kisB_int, kisB_str, kisB_list, kisB_tuple, kisB_dict, kisI_none, kisI_bool, kisI_int, kisI_str, kisI_list, kisI_tuple, kisI_dict, kisIB_none, kisIB_bool, kisIB_int, kisIB_str, kisIB_list, kisIB_tuple, kisIB_dict, kisD_none, kisD_bool, kisD_int, kisD_str, kisD_list, kisD_tuple, kisD_dict, rEqU, rNeU, rAdd_1, rAdd_2, rAdd_3, rAdd_4, rSub_1, rMul_1, rMul_2, rMul_3, rDiv_1, rMod_1, rPow_1, rNeg_1, rLt_1, rLe_1, rLe_2, rGt_1, rGe_1, rIs_1, rIs_2, rIsNot_1, rIsNot_2, rMem_1, rItem_1, rItem_2, rStore_1, rLen_1, rLen_2, rInt_1, rInt_2, rMax_1, rMin_1, rList_1, rTuple_1, rAbs_1, rIsi_1, rSlice_1, rSlice_2, mAppend_1, mExtend_1, mPop_1, mPop_2, mInsert_1, mUpper_1, rInT_1, eqR_rr, eqR_rs, eqR_ri, eqR_rb, eqR_rn, eqR_sr, eqR_ir, eqR_br, eqR_nr, isCol_l, isCol_t, isCol_d, isSeq_l, isSeq_t, iAny, wipe, tYes, List.isEmpty_nil, List.isEmpty_cons, truN_non, truN_bl, truN_int, tyN_non, tyN_bl, tyN_int, tyN_str, keyOf, scal_nn, scal_nb, scal_ni, scal_ns, scal_nr, scal_bn, scal_bb, scal_bs, scal_br, scal_in, scal_ii, scal_is, scal_ir, scal_sn, scal_sb, scal_si, scal_ss, scal_sr, scal_rn, scal_rb, scal_ri, scal_rs, scal_rr, decide_true, decide_false, List.map_cons, List.map_nil, List.set_cons_zero, List.set_cons_succ, List.getElem?_cons_zero, List.getElem?_cons_succ, List.getElem?_nil, exists_eq_left, exists_eq_left', V.bl.injEq, V.int.injEq, V.str.injEq, V.ref.injEq, if_true, if_false, ite_true, ite_false, Bool.false_eq_true, eq_self, true_and, and_true, decide_eq_true_eq, e, ep]
  cases A with
  | nil =>
    simp only [tSeq, tIfS, tTest, tOp, tV, tC, tAsg, gName, gSub, tRet, tRetN, tCB, tCons, tNil, tDrop, tNext, tAnd, tOr, tNot, tAndV, tOrV, tNotV, tIf, tTru, tUn, tCallS, WE, tTup, tLst, tSl, tPart, tNoPart, tPar, tChain, tBM, tBM0, tM0, tM1, gTup, gCons, gNil, tInC, gC, gN, tCallK, tCst, tRevL, ok_str, ok_int, ok_bool, ok_tuple, ok_list, ok_dict, sub_str, sub_tup, sub_lst, sub_bool, sub_int, sub_dict, Bool.not_true, Bool.not_false, kisS_none, kisS_bool, kisS_int, kisS_str, kisS_list, kisS_tuple, kisS_dict, kisT_none, kisT_bool, kisT_int, kisT_str, kisT_list, kisT_tuple, kisT_dict, kisL_none, kisL_bool, kisL_int, kisL_str, kisL_list, kisL_tuple, kisL_dict, kisB_none, kisB_bool, kisB_int, kisB_str, kisB_list, kisB_tuple, kisB_dict, kisI_none, kisI_bool, kisI_int, kisI_str, kisI_list, kisI_tuple, kisI_dict, kisIB_none, kisIB_bool, kisIB_int, kisIB_str, kisIB_list, kisIB_tuple, kisIB_dict, kisD_none, kisD_bool, kisD_int, kisD_str, kisD_list, kisD_tuple, kisD_dict, rEqU, rNeU, rAdd_1, rAdd_2, rAdd_3, rAdd_4, rSub_1, rMul_1, rMul_2, rMul_3, rDiv_1, rMod_1, rPow_1, rNeg_1, rLt_1, rLe_1, rLe_2, rGt_1, rGe_1, rIs_1, rIs_2, rIsNot_1, rIsNot_2, rMem_1, rItem_1, rItem_2, rStore_1, rLen_1, rLen_2, rInt_1, rInt_2, rMax_1, rMin_1, rList_1, rTuple_1, rAbs_1, rIsi_1, rSlice_1, rSlice_2, mAppend_1, mExtend_1, mPop_1, mPop_2, mInsert_1, mUpper_1, rInT_1, eqR_rr, eqR_rs, eqR_ri, eqR_rb, eqR_rn, eqR_sr, eqR_ir, eqR_br, eqR_nr, isCol_l, isCol_t, isCol_d, isSeq_l, isSeq_t, iAny, wipe, tYes, List.isEmpty_nil, List.isEmpty_cons, truN_non, truN_bl, truN_int, tyN_non, tyN_bl, tyN_int, tyN_str, keyOf, scal_nn, scal_nb, scal_ni, scal_ns, scal_nr, scal_bn, scal_bb, scal_bs, scal_br, scal_in, scal_ii, scal_is, scal_ir, scal_sn, scal_sb, scal_si, scal_ss, scal_sr, scal_rn, scal_rb, scal_ri, scal_rs, scal_rr, decide_true, decide_false, List.map_cons, List.map_nil, List.set_cons_zero, List.set_cons_succ, List.getElem?_cons_zero, List.getElem?_cons_succ, List.getElem?_nil, exists_eq_left, exists_eq_left', V.bl.injEq, V.int.injEq, V.str.injEq, V.ref.injEq, if_true, if_false, ite_true, ite_false, Bool.false_eq_true, eq_self, true_and, and_true, decide_eq_true_eq]
    exact no rfl _ (Ext.refl _)
  | @cons v0 xs d0 r D0 A =>
  have a0 : atI (v0 :: xs) 0 = some v0 := atI_nat (j := 0) rfl
  simp only [tSeq, tIfS, tTest, tOp, tV, tC, tAsg, gName, gSub, tRet, tRetN, tCB, tCons, tNil, tDrop, tNext, tAnd, tOr, tNot, tAndV, tOrV, tNotV, tIf, tTru, tUn, tCallS, WE, tTup, tLst, tSl, tPart, tNoPart, tPar, tChain, tBM, tBM0, tM0, tM1, gTup, gCons, gNil, tInC, gC, gN, tCallK, tCst, tRevL, ok_str, ok_int, ok_bool, ok_tuple, ok_list, ok_dict, sub_str, sub_tup, sub_lst, sub_bool, sub_int, sub_dict, Bool.not_true, Bool.not_false, kisS_none, kisS_bool, kisS_int, kisS_str, kisS_list, kisS_tuple, kisS_dict, kisT_none, kisT_bool, kisT_int, kisT_str, kisT_list, kisT_tuple, kisT_dict, kisL_none, kisL_bool, kisL_int, kisL_str, kisL_list, kisL_tuple, kisL_dict, kisB_none, kisB_bool, kisB_int, kisB_str, kisB_list, kisB_tuple, kisB_dict, kisI_none, kisI_bool, kisI_int, kisI_str, kisI_list, kisI_tuple, kisI_dict, kisIB_none, kisIB_bool, kisIB_int, kisIB_str, kisIB_list, kisIB_tuple, kisIB_dict, kisD_none, kisD_bool, kisD_int, kisD_str, kisD_list, kisD_tuple, kisD_dict, rEqU, rNeU, rAdd_1, rAdd_2, rAdd_3, rAdd_4, rSub_1, rMul_1, rMul_2, rMul_3, rDiv_1, rMod_1, rPow_1, rNeg_1, rLt_1, rLe_1, rLe_2, rGt_1, rGe_1, rIs_1, rIs_2, rIsNot_1, rIsNot_2, rMem_1, rItem_1, rItem_2, rStore_1, rLen_1, rLen_2, rInt_1, rInt_2, rMax_1, rMin_1, rList_1, rTuple_1, rAbs_1, rIsi_1, rSlice_1, rSlice_2, mAppend_1, mExtend_1, mPop_1, mPop_2, mInsert_1, mUpper_1, rInT_1, eqR_rr, eqR_rs, eqR_ri, eqR_rb, eqR_rn, eqR_sr, eqR_ir, eqR_br, eqR_nr, isCol_l, isCol_t, isCol_d, isSeq_l, isSeq_t, iAny, wipe, tYes, List.isEmpty_nil, List.isEmpty_cons, truN_non, truN_bl, truN_int, tyN_non, tyN_bl, tyN_int, tyN_str, keyOf, scal_nn, scal_nb, scal_ni, scal_ns, scal_nr, scal_bn, scal_bb, scal_bs, scal_br, scal_in, scal_ii, scal_is, scal_ir, scal_sn, scal_sb, scal_si, scal_ss, scal_sr, scal_rn, scal_rb, scal_ri, scal_rs, scal_rr, decide_true, decide_false, List.map_cons, List.map_nil, List.set_cons_zero, List.set_cons_succ, List.getElem?_cons_zero, List.getElem?_cons_succ, List.getElem?_nil, exists_eq_left, exists_eq_left', V.bl.injEq, V.int.injEq, V.str.injEq, V.ref.injEq, if_true, if_false, ite_true, ite_false, Bool.false_eq_true, eq_self, true_and, and_true, decide_eq_true_eq, a0, tyN_dr D0]
  by_cases hS : isS d0 = true
  rotate_left
  · rw [not_isT' hS]
    simp only [tSeq, tIfS, tTest, tOp, tV, tC, tAsg, gName, gSub, tRet, tRetN, tCB, tCons, tNil, tDrop, tNext, tAnd, tOr, tNot, tAndV, tOrV, tNotV, tIf, tTru, tUn, tCallS, WE, tTup, tLst, tSl, tPart, tNoPart, tPar, tChain, tBM, tBM0, tM0, tM1, gTup, gCons, gNil, tInC, gC, gN, tCallK, tCst, tRevL, ok_str, ok_int, ok_bool, ok_tuple, ok_list, ok_dict, sub_str, sub_tup, sub_lst, sub_bool, sub_int, sub_dict, Bool.not_true, Bool.not_false, kisS_none, kisS_bool, kisS_int, kisS_str, kisS_list, kisS_tuple, kisS_dict, kisT_none, kisT_bool, kisT_int, kisT_str, kisT_list, kisT_tuple, kisT_dict, kisL_none, kisL_bool, kisL_int, kisL_str, kisL_list, kisL_tuple, kisL_dict, kisB_none, kisB_bool, kisB_int, kisB_str, kisB_list, kisB_tuple, kisB_dict, kisI_none, kisI_bool, kisI_int, kisI_str, kisI_list, kisI_tuple, kisI_dict, kisIB_none, kisIB_bool, kisIB_int, kisIB_str, kisIB_list, kisIB_tuple, kisIB_dict, kisD_none, kisD_bool, kisD_int, kisD_str, kisD_list, kisD_tuple, kisD_dict, rEqU, rNeU, rAdd_1, rAdd_2, rAdd_3, rAdd_4, rSub_1, rMul_1, rMul_2, rMul_3, rDiv_1, rMod_1, rPow_1, rNeg_1, rLt_1, rLe_1, rLe_2, rGt_1, rGe_1, rIs_1, rIs_2, rIsNot_1, rIsNot_2, rMem_1, rItem_1, rItem_2, rStore_1, rLen_1, rLen_2, rInt_1, rInt_2, rMax_1, rMin_1, rList_1, rTuple_1, rAbs_1, rIsi_1, rSlice_1, rSlice_2, mAppend_1, mExtend_1, mPop_1, mPop_2, mInsert_1, mUpper_1, rInT_1, eqR_rr, eqR_rs, eqR_ri, eqR_rb, eqR_rn, eqR_sr, eqR_ir, eqR_br, eqR_nr, isCol_l, isCol_t, isCol_d, isSeq_l, isSeq_t, iAny, wipe, tYes, List.isEmpty_nil, List.isEmpty_cons, truN_non, truN_bl, truN_int, tyN_non, tyN_bl, tyN_int, tyN_str, keyOf, scal_nn, scal_nb, scal_ni, scal_ns, scal_nr, scal_bn, scal_bb, scal_bs, scal_br, scal_in, scal_ii, scal_is, scal_ir, scal_sn, scal_sb, scal_si, scal_ss, scal_sr, scal_rn, scal_rb, scal_ri, scal_rs, scal_rr, decide_true, decide_false, List.map_cons, List.map_nil, List.set_cons_zero, List.set_cons_succ, List.getElem?_cons_zero, List.getElem?_cons_succ, List.getElem?_nil, exists_eq_left, exists_eq_left', V.bl.injEq, V.int.injEq, V.str.injEq, V.ref.injEq, if_true, if_false, ite_true, ite_false, Bool.false_eq_true, eq_self, true_and, and_true, decide_eq_true_eq]
    exact no (by cases d0 <;> first | exact absurd rfl hS | rfl) _ (Ext.refl _)
  obtain ⟨w, rfl⟩ := of_isS hS
  obtain rfl := dr_str D0
  simp only [tSeq, tIfS, tTest, tOp, tV, tC, tAsg, gName, gSub, tRet, tRetN, tCB, tCons, tNil, tDrop, tNext, tAnd, tOr, tNot, tAndV, tOrV, tNotV, tIf, tTru, tUn, tCallS, WE, tTup, tLst, tSl, tPart, tNoPart, tPar, tChain, tBM, tBM0, tM0, tM1, gTup, gCons, gNil, tInC, gC, gN, tCallK, tCst, tRevL, ok_str, ok_int, ok_bool, ok_tuple, ok_list, ok_dict, sub_str, sub_tup, sub_lst, sub_bool, sub_int, sub_dict, Bool.not_true, Bool.not_false, kisS_none, kisS_bool, kisS_int, kisS_str, kisS_list, kisS_tuple, kisS_dict, kisT_none, kisT_bool, kisT_int, kisT_str, kisT_list, kisT_tuple, kisT_dict, kisL_none, kisL_bool, kisL_int, kisL_str, kisL_list, kisL_tuple, kisL_dict, kisB_none, kisB_bool, kisB_int, kisB_str, kisB_list, kisB_tuple, kisB_dict, kisI_none, kisI_bool, kisI_int, kisI_str, kisI_list, kisI_tuple, kisI_dict, kisIB_none, kisIB_bool, kisIB_int, kisIB_str, kisIB_list, kisIB_tuple, kisIB_dict, kisD_none, kisD_bool, kisD_int, kisD_str, kisD_list, kisD_tuple, kisD_dict, rEqU, rNeU, rAdd_1, rAdd_2, rAdd_3, rAdd_4, rSub_1, rMul_1, rMul_2, rMul_3, rDiv_1, rMod_1, rPow_1, rNeg_1, rLt_1, rLe_1, rLe_2, rGt_1, rGe_1, rIs_1, rIs_2, rIsNot_1, rIsNot_2, rMem_1, rItem_1, rItem_2, rStore_1, rLen_1, rLen_2, rInt_1, rInt_2, rMax_1, rMin_1, rList_1, rTuple_1, rAbs_1, rIsi_1, rSlice_1, rSlice_2, mAppend_1, mExtend_1, mPop_1, mPop_2, mInsert_1, mUpper_1, rInT_1, eqR_rr, eqR_rs, eqR_ri, eqR_rb, eqR_rn, eqR_sr, eqR_ir, eqR_br, eqR_nr, isCol_l, isCol_t, isCol_d, isSeq_l, isSeq_t, iAny, wipe, tYes, List.isEmpty_nil, List.isEmpty_cons, truN_non, truN_bl, truN_int, tyN_non, tyN_bl, tyN_int, tyN_str, keyOf, scal_nn, scal_nb, scal_ni, scal_ns, scal_nr, scal_bn, scal_bb, scal_bs, scal_br, scal_in, scal_ii, scal_is, scal_ir, scal_sn, scal_sb, scal_si, scal_ss, scal_sr, scal_rn, scal_rb, scal_ri, scal_rs, scal_rr, decide_true, decide_false, List.map_cons, List.map_nil, List.set_cons_zero, List.set_cons_succ, List.getElem?_cons_zero, List.getElem?_cons_succ, List.getElem?_nil, exists_eq_left, exists_eq_left', V.bl.injEq, V.int.injEq, V.str.injEq, V.ref.injEq, if_true, if_false, ite_true, ite_false, Bool.false_eq_true, eq_self, true_and, and_true, decide_eq_true_eq]
  have hlen : ((V.str w :: xs).length : Int) = (r.length : Int) + 1 := by
    simp only [List.length_cons] at hl ⊢
    omega
  refine hN _ _ ?_; clear hN N
  refine sq fun N hN => ?_
  suffices go : inWs aloneWs w = false → N [some (.ref a)] H1 by
    simp only [tSeq, tIfS, tTest, tOp, tV, tC, tAsg, gName, gSub, tRet, tRetN, tCB, tCons, tNil, tDrop, tNext, tAnd, tOr, tNot, tAndV, tOrV, tNotV, tIf, tTru, tUn, tCallS, WE, tTup, tLst, tSl, tPart, tNoPart, tPar, tChain, tBM, tBM0, tM0, tM1, gTup, gCons, gNil, tInC, gC, gN, tCallK, tCst, tRevL, ok_str, ok_int, ok_bool, ok_tuple, ok_list, ok_dict, sub_str, sub_tup, sub_lst, sub_bool, sub_int, sub_dict, Bool.not_true, Bool.not_false, kisS_none, kisS_bool, kisS_int, kisS_str, kisS_list, kisS_tuple, kisS_dict, kisT_none, kisT_bool, kisT_int, kisT_str, kisT_list, kisT_tuple, kisT_dict, kisL_none, kisL_bool, kisL_int, kisL_str, kisL_list, kisL_tuple, kisL_dict, kisB_none, kisB_bool, kisB_int, kisB_str, kisB_list, kisB_tuple, kisB_dict, kisI_none, kisI_bool, kisI_int, kisI_str, kisI_list, kisI_tuple, kisI_dict, kisIB_none, kisIB_bool, kisIB_int, kisIB_str, kisIB_list, kisIB_tuple, kisIB_dict, kisD_none, kisD_bool, kisD_int, kisD_str, kisD_list, kisD_tuple, kisD_dict, rEqU, rNeU, rAdd_1, rAdd_2, rAdd_3, rAdd_4, rSub_1, rMul_1, rMul_2, rMul_3, rDiv_1, rMod_1, rPow_1, rNeg_1, rLt_1, rLe_1, rLe_2, rGt_1, rGe_1, rIs_1, rIs_2, rIsNot_1, rIsNot_2, rMem_1, rItem_1, rItem_2, rStore_1, rLen_1, rLen_2, rInt_1, rInt_2, rMax_1, rMin_1, rList_1, rTuple_1, rAbs_1, rIsi_1, rSlice_1, rSlice_2, mAppend_1, mExtend_1, mPop_1, mPop_2, mInsert_1, mUpper_1, rInT_1, eqR_rr, eqR_rs, eqR_ri, eqR_rb, eqR_rn, eqR_sr, eqR_ir, eqR_br, eqR_nr, isCol_l, isCol_t, isCol_d, isSeq_l, isSeq_t, iAny, wipe, tYes, List.isEmpty_nil, List.isEmpty_cons, truN_non, truN_bl, truN_int, tyN_non, tyN_bl, tyN_int, tyN_str, keyOf, scal_nn, scal_nb, scal_ni, scal_ns, scal_nr, scal_bn, scal_bb, scal_bs, scal_br, scal_in, scal_ii, scal_is, scal_ir, scal_sn, scal_sb, scal_si, scal_ss, scal_sr, scal_rn, scal_rb, scal_ri, scal_rs, scal_rr, decide_true, decide_false, List.map_cons, List.map_nil, List.set_cons_zero, List.set_cons_succ, List.getElem?_cons_zero, List.getElem?_cons_succ, List.getElem?_nil, exists_eq_left, exists_eq_left', V.bl.injEq, V.int.injEq, V.str.injEq, V.ref.injEq, if_true, if_false, ite_true, ite_false, Bool.false_eq_true, eq_self, true_and, and_true, decide_eq_true_eq, e, a0]
    refine ⟨rfl, by decide, ?_⟩
    rw [show inV (V.str w) [V.str "begin", V.str "crash", V.str "clean"] = inWs aloneWs w from inV_str aloneWs w]
    refine ite2 (fun hw => ?_) (fun hw => go (not_isT' hw))
    rw [hlen]
    simp only [isOp, hw, if_true] at k
    rw [show decide ((r.length : Int) + 1 = 1) = decide (r.length = 0) from decide_eq_decide.mpr (by omega)]
    exact k _ (Ext.refl _)
  intro hw1
  refine hN _ _ ?_; clear hN N
  refine sq fun N hN => ?_
  simp only [tSeq, tIfS, tTest, tOp, tV, tC, tAsg, gName, gSub, tRet, tRetN, tCB, tCons, tNil, tDrop, tNext, tAnd, tOr, tNot, tAndV, tOrV, tNotV, tIf, tTru, tUn, tCallS, WE, tTup, tLst, tSl, tPart, tNoPart, tPar, tChain, tBM, tBM0, tM0, tM1, gTup, gCons, gNil, tInC, gC, gN, tCallK, tCst, tRevL, ok_str, ok_int, ok_bool, ok_tuple, ok_list, ok_dict, sub_str, sub_tup, sub_lst, sub_bool, sub_int, sub_dict, Bool.not_true, Bool.not_false, kisS_none, kisS_bool, kisS_int, kisS_str, kisS_list, kisS_tuple, kisS_dict, kisT_none, kisT_bool, kisT_int, kisT_str, kisT_list, kisT_tuple, kisT_dict, kisL_none, kisL_bool, kisL_int, kisL_str, kisL_list, kisL_tuple, kisL_dict, kisB_none, kisB_bool, kisB_int, kisB_str, kisB_list, kisB_tuple, kisB_dict, kisI_none, kisI_bool, kisI_int, kisI_str, kisI_list, kisI_tuple, kisI_dict, kisIB_none, kisIB_bool, kisIB_int, kisIB_str, kisIB_list, kisIB_tuple, kisIB_dict, kisD_none, kisD_bool, kisD_int, kisD_str, kisD_list, kisD_tuple, kisD_dict, rEqU, rNeU, rAdd_1, rAdd_2, rAdd_3, rAdd_4, rSub_1, rMul_1, rMul_2, rMul_3, rDiv_1, rMod_1, rPow_1, rNeg_1, rLt_1, rLe_1, rLe_2, rGt_1, rGe_1, rIs_1, rIs_2, rIsNot_1, rIsNot_2, rMem_1, rItem_1, rItem_2, rStore_1, rLen_1, rLen_2, rInt_1, rInt_2, rMax_1, rMin_1, rList_1, rTuple_1, rAbs_1, rIsi_1, rSlice_1, rSlice_2, mAppend_1, mExtend_1, mPop_1, mPop_2, mInsert_1, mUpper_1, rInT_1, eqR_rr, eqR_rs, eqR_ri, eqR_rb, eqR_rn, eqR_sr, eqR_ir, eqR_br, eqR_nr, isCol_l, isCol_t, isCol_d, isSeq_l, isSeq_t, iAny, wipe, tYes, List.isEmpty_nil, List.isEmpty_cons, truN_non, truN_bl, truN_int, tyN_non, tyN_bl, tyN_int, tyN_str, keyOf, scal_nn, scal_nb, scal_ni, scal_ns, scal_nr, scal_bn, scal_bb, scal_bs, scal_br, scal_in, scal_ii, scal_is, scal_ir, scal_sn, scal_sb, scal_si, scal_ss, scal_sr, scal_rn, scal_rb, scal_ri, scal_rs, scal_rr, decide_true, decide_false, List.map_cons, List.map_nil, List.set_cons_zero, List.set_cons_succ, List.getElem?_cons_zero, List.getElem?_cons_succ, List.getElem?_nil, exists_eq_left, exists_eq_left', V.bl.injEq, V.int.injEq, V.str.injEq, V.ref.injEq, if_true, if_false, ite_true, ite_false, Bool.false_eq_true, eq_self, true_and, and_true, decide_eq_true_eq, e, hlen]
  cases A with
  | nil =>
    refine ite2 (fun _ => no (by simp only [isOp, hw1]; rfl) _ (Ext.refl _)) (fun h2 => ?_)
    simp only [List.length_nil] at h2
    omega
  | @cons v1 xs t r D1 A =>
  refine ite2 (fun h2 => ?_) (fun _ => ?_)
  · simp only [List.length_cons] at h2
    omega
  have a1 : atI (V.str w :: v1 :: xs) 1 = some v1 := atI_nat (j := 1) rfl
  replace hlen : ((V.str w :: v1 :: xs).length : Int) = (r.length : Int) + 2 := by
    rw [hlen]
    simp only [List.length_cons]
    omega
  have e1 : isOp (.tuple (.str w :: t :: r)) = if w = "horizon" then decide (r.length = 0) && fromTo 0 60 t else fromTo 1 1000000 t && (if inWs numWs w = true then decide (r.length = 0) else isReq w r) := by
    simp only [isOp, hw1]
    rfl
  rw [e1] at k no
  clear e1
  have d2 : decide ((r.length : Int) + 2 = 2) = decide (r.length = 0) := decide_eq_decide.mpr (by omega)
  refine hN _ _ ?_; clear hN N
  refine sq fun N hN => ?_
  suffices go : ¬ w = "horizon" → N [some (.ref a)] H1 by
    simp only [tSeq, tIfS, tTest, tOp, tV, tC, tAsg, gName, gSub, tRet, tRetN, tCB, tCons, tNil, tDrop, tNext, tAnd, tOr, tNot, tAndV, tOrV, tNotV, tIf, tTru, tUn, tCallS, WE, tTup, tLst, tSl, tPart, tNoPart, tPar, tChain, tBM, tBM0, tM0, tM1, gTup, gCons, gNil, tInC, gC, gN, tCallK, tCst, tRevL, ok_str, ok_int, ok_bool, ok_tuple, ok_list, ok_dict, sub_str, sub_tup, sub_lst, sub_bool, sub_int, sub_dict, Bool.not_true, Bool.not_false, kisS_none, kisS_bool, kisS_int, kisS_str, kisS_list, kisS_tuple, kisS_dict, kisT_none, kisT_bool, kisT_int, kisT_str, kisT_list, kisT_tuple, kisT_dict, kisL_none, kisL_bool, kisL_int, kisL_str, kisL_list, kisL_tuple, kisL_dict, kisB_none, kisB_bool, kisB_int, kisB_str, kisB_list, kisB_tuple, kisB_dict, kisI_none, kisI_bool, kisI_int, kisI_str, kisI_list, kisI_tuple, kisI_dict, kisIB_none, kisIB_bool, kisIB_int, kisIB_str, kisIB_list, kisIB_tuple, kisIB_dict, kisD_none, kisD_bool, kisD_int, kisD_str, kisD_list, kisD_tuple, kisD_dict, rEqU, rNeU, rAdd_1, rAdd_2, rAdd_3, rAdd_4, rSub_1, rMul_1, rMul_2, rMul_3, rDiv_1, rMod_1, rPow_1, rNeg_1, rLt_1, rLe_1, rLe_2, rGt_1, rGe_1, rIs_1, rIs_2, rIsNot_1, rIsNot_2, rMem_1, rItem_1, rItem_2, rStore_1, rLen_1, rLen_2, rInt_1, rInt_2, rMax_1, rMin_1, rList_1, rTuple_1, rAbs_1, rIsi_1, rSlice_1, rSlice_2, mAppend_1, mExtend_1, mPop_1, mPop_2, mInsert_1, mUpper_1, rInT_1, eqR_rr, eqR_rs, eqR_ri, eqR_rb, eqR_rn, eqR_sr, eqR_ir, eqR_br, eqR_nr, isCol_l, isCol_t, isCol_d, isSeq_l, isSeq_t, iAny, wipe, tYes, List.isEmpty_nil, List.isEmpty_cons, truN_non, truN_bl, truN_int, tyN_non, tyN_bl, tyN_int, tyN_str, keyOf, scal_nn, scal_nb, scal_ni, scal_ns, scal_nr, scal_bn, scal_bb, scal_bs, scal_br, scal_in, scal_ii, scal_is, scal_ir, scal_sn, scal_sb, scal_si, scal_ss, scal_sr, scal_rn, scal_rb, scal_ri, scal_rs, scal_rr, decide_true, decide_false, List.map_cons, List.map_nil, List.set_cons_zero, List.set_cons_succ, List.getElem?_cons_zero, List.getElem?_cons_succ, List.getElem?_nil, exists_eq_left, exists_eq_left', V.bl.injEq, V.int.injEq, V.str.injEq, V.ref.injEq, if_true, if_false, ite_true, ite_false, Bool.false_eq_true, eq_self, true_and, and_true, decide_eq_true_eq, e, a0]
    refine ite2 (fun hw => ?_) (fun hw => go hw)
    rw [if_pos hw] at k
    simp only [tSeq, tIfS, tTest, tOp, tV, tC, tAsg, gName, gSub, tRet, tRetN, tCB, tCons, tNil, tDrop, tNext, tAnd, tOr, tNot, tAndV, tOrV, tNotV, tIf, tTru, tUn, tCallS, WE, tTup, tLst, tSl, tPart, tNoPart, tPar, tChain, tBM, tBM0, tM0, tM1, gTup, gCons, gNil, tInC, gC, gN, tCallK, tCst, tRevL, ok_str, ok_int, ok_bool, ok_tuple, ok_list, ok_dict, sub_str, sub_tup, sub_lst, sub_bool, sub_int, sub_dict, Bool.not_true, Bool.not_false, kisS_none, kisS_bool, kisS_int, kisS_str, kisS_list, kisS_tuple, kisS_dict, kisT_none, kisT_bool, kisT_int, kisT_str, kisT_list, kisT_tuple, kisT_dict, kisL_none, kisL_bool, kisL_int, kisL_str, kisL_list, kisL_tuple, kisL_dict, kisB_none, kisB_bool, kisB_int, kisB_str, kisB_list, kisB_tuple, kisB_dict, kisI_none, kisI_bool, kisI_int, kisI_str, kisI_list, kisI_tuple, kisI_dict, kisIB_none, kisIB_bool, kisIB_int, kisIB_str, kisIB_list, kisIB_tuple, kisIB_dict, kisD_none, kisD_bool, kisD_int, kisD_str, kisD_list, kisD_tuple, kisD_dict, rEqU, rNeU, rAdd_1, rAdd_2, rAdd_3, rAdd_4, rSub_1, rMul_1, rMul_2, rMul_3, rDiv_1, rMod_1, rPow_1, rNeg_1, rLt_1, rLe_1, rLe_2, rGt_1, rGe_1, rIs_1, rIs_2, rIsNot_1, rIsNot_2, rMem_1, rItem_1, rItem_2, rStore_1, rLen_1, rLen_2, rInt_1, rInt_2, rMax_1, rMin_1, rList_1, rTuple_1, rAbs_1, rIsi_1, rSlice_1, rSlice_2, mAppend_1, mExtend_1, mPop_1, mPop_2, mInsert_1, mUpper_1, rInT_1, eqR_rr, eqR_rs, eqR_ri, eqR_rb, eqR_rn, eqR_sr, eqR_ir, eqR_br, eqR_nr, isCol_l, isCol_t, isCol_d, isSeq_l, isSeq_t, iAny, wipe, tYes, List.isEmpty_nil, List.isEmpty_cons, truN_non, truN_bl, truN_int, tyN_non, tyN_bl, tyN_int, tyN_str, keyOf, scal_nn, scal_nb, scal_ni, scal_ns, scal_nr, scal_bn, scal_bb, scal_bs, scal_br, scal_in, scal_ii, scal_is, scal_ir, scal_sn, scal_sb, scal_si, scal_ss, scal_sr, scal_rn, scal_rb, scal_ri, scal_rs, scal_rr, decide_true, decide_false, List.map_cons, List.map_nil, List.set_cons_zero, List.set_cons_succ, List.getElem?_cons_zero, List.getElem?_cons_succ, List.getElem?_nil, exists_eq_left, exists_eq_left', V.bl.injEq, V.int.injEq, V.str.injEq, V.ref.injEq, if_true, if_false, ite_true, ite_false, Bool.false_eq_true, eq_self, true_and, and_true, decide_eq_true_eq, e, hlen, a1]
    refine ite2 (fun h2 => ?_) (fun h2 => ?_)
    · refine ⟨v1, t, 0, 60, rfl, D1, ?_⟩
      rw [show decide (r.length = 0) = true from decide_eq_true (by omega), Bool.true_and] at k
      exact k _ (Ext.refl _)
    · rw [show decide (r.length = 0) = false from decide_eq_false (by omega), Bool.false_and] at k
      exact k _ (Ext.refl _)
  intro nh
  rw [if_neg nh] at k
  refine hN _ _ ?_; clear hN N
  refine sq fun N hN => ?_
  simp only [tSeq, tIfS, tTest, tOp, tV, tC, tAsg, gName, gSub, tRet, tRetN, tCB, tCons, tNil, tDrop, tNext, tAnd, tOr, tNot, tAndV, tOrV, tNotV, tIf, tTru, tUn, tCallS, WE, tTup, tLst, tSl, tPart, tNoPart, tPar, tChain, tBM, tBM0, tM0, tM1, gTup, gCons, gNil, tInC, gC, gN, tCallK, tCst, tRevL, ok_str, ok_int, ok_bool, ok_tuple, ok_list, ok_dict, sub_str, sub_tup, sub_lst, sub_bool, sub_int, sub_dict, Bool.not_true, Bool.not_false, kisS_none, kisS_bool, kisS_int, kisS_str, kisS_list, kisS_tuple, kisS_dict, kisT_none, kisT_bool, kisT_int, kisT_str, kisT_list, kisT_tuple, kisT_dict, kisL_none, kisL_bool, kisL_int, kisL_str, kisL_list, kisL_tuple, kisL_dict, kisB_none, kisB_bool, kisB_int, kisB_str, kisB_list, kisB_tuple, kisB_dict, kisI_none, kisI_bool, kisI_int, kisI_str, kisI_list, kisI_tuple, kisI_dict, kisIB_none, kisIB_bool, kisIB_int, kisIB_str, kisIB_list, kisIB_tuple, kisIB_dict, kisD_none, kisD_bool, kisD_int, kisD_str, kisD_list, kisD_tuple, kisD_dict, rEqU, rNeU, rAdd_1, rAdd_2, rAdd_3, rAdd_4, rSub_1, rMul_1, rMul_2, rMul_3, rDiv_1, rMod_1, rPow_1, rNeg_1, rLt_1, rLe_1, rLe_2, rGt_1, rGe_1, rIs_1, rIs_2, rIsNot_1, rIsNot_2, rMem_1, rItem_1, rItem_2, rStore_1, rLen_1, rLen_2, rInt_1, rInt_2, rMax_1, rMin_1, rList_1, rTuple_1, rAbs_1, rIsi_1, rSlice_1, rSlice_2, mAppend_1, mExtend_1, mPop_1, mPop_2, mInsert_1, mUpper_1, rInT_1, eqR_rr, eqR_rs, eqR_ri, eqR_rb, eqR_rn, eqR_sr, eqR_ir, eqR_br, eqR_nr, isCol_l, isCol_t, isCol_d, isSeq_l, isSeq_t, iAny, wipe, tYes, List.isEmpty_nil, List.isEmpty_cons, truN_non, truN_bl, truN_int, tyN_non, tyN_bl, tyN_int, tyN_str, keyOf, scal_nn, scal_nb, scal_ni, scal_ns, scal_nr, scal_bn, scal_bb, scal_bs, scal_br, scal_in, scal_ii, scal_is, scal_ir, scal_sn, scal_sb, scal_si, scal_ss, scal_sr, scal_rn, scal_rb, scal_ri, scal_rs, scal_rr, decide_true, decide_false, List.map_cons, List.map_nil, List.set_cons_zero, List.set_cons_succ, List.getElem?_cons_zero, List.getElem?_cons_succ, List.getElem?_nil, exists_eq_left, exists_eq_left', V.bl.injEq, V.int.injEq, V.str.injEq, V.ref.injEq, if_true, if_false, ite_true, ite_false, Bool.false_eq_true, eq_self, true_and, and_true, decide_eq_true_eq, e, a1]
  refine ⟨v1, t, 1, 1000000, rfl, D1, ?_⟩
  simp only [tSeq, tIfS, tTest, tOp, tV, tC, tAsg, gName, gSub, tRet, tRetN, tCB, tCons, tNil, tDrop, tNext, tAnd, tOr, tNot, tAndV, tOrV, tNotV, tIf, tTru, tUn, tCallS, WE, tTup, tLst, tSl, tPart, tNoPart, tPar, tChain, tBM, tBM0, tM0, tM1, gTup, gCons, gNil, tInC, gC, gN, tCallK, tCst, tRevL, ok_str, ok_int, ok_bool, ok_tuple, ok_list, ok_dict, sub_str, sub_tup, sub_lst, sub_bool, sub_int, sub_dict, Bool.not_true, Bool.not_false, kisS_none, kisS_bool, kisS_int, kisS_str, kisS_list, kisS_tuple, kisS_dict, kisT_none, kisT_bool, kisT_int, kisT_str, kisT_list, kisT_tuple, kisT_dict, kisL_none, kisL_bool, kisL_int, kisL_str, kisL_list, kisL_tuple, kisL_dict, kisB_none, kisB_bool, kisB_int, kisB_str, kisB_list, kisB_tuple, kisB_dict, kisI_none, kisI_bool, kisI_int, kisI_str, kisI_list, kisI_tuple, kisI_dict, kisIB_none, kisIB_bool, kisIB_int, kisIB_str, kisIB_list, kisIB_tuple, kisIB_dict, kisD_none, kisD_bool, kisD_int, kisD_str, kisD_list, kisD_tuple, kisD_dict, rEqU, rNeU, rAdd_1, rAdd_2, rAdd_3, rAdd_4, rSub_1, rMul_1, rMul_2, rMul_3, rDiv_1, rMod_1, rPow_1, rNeg_1, rLt_1, rLe_1, rLe_2, rGt_1, rGe_1, rIs_1, rIs_2, rIsNot_1, rIsNot_2, rMem_1, rItem_1, rItem_2, rStore_1, rLen_1, rLen_2, rInt_1, rInt_2, rMax_1, rMin_1, rList_1, rTuple_1, rAbs_1, rIsi_1, rSlice_1, rSlice_2, mAppend_1, mExtend_1, mPop_1, mPop_2, mInsert_1, mUpper_1, rInT_1, eqR_rr, eqR_rs, eqR_ri, eqR_rb, eqR_rn, eqR_sr, eqR_ir, eqR_br, eqR_nr, isCol_l, isCol_t, isCol_d, isSeq_l, isSeq_t, iAny, wipe, tYes, List.isEmpty_nil, List.isEmpty_cons, truN_non, truN_bl, truN_int, tyN_non, tyN_bl, tyN_int, tyN_str, keyOf, scal_nn, scal_nb, scal_ni, scal_ns, scal_nr, scal_bn, scal_bb, scal_bs, scal_br, scal_in, scal_ii, scal_is, scal_ir, scal_sn, scal_sb, scal_si, scal_ss, scal_sr, scal_rn, scal_rb, scal_ri, scal_rs, scal_rr, decide_true, decide_false, List.map_cons, List.map_nil, List.set_cons_zero, List.set_cons_succ, List.getElem?_cons_zero, List.getElem?_cons_succ, List.getElem?_nil, exists_eq_left, exists_eq_left', V.bl.injEq, V.int.injEq, V.str.injEq, V.ref.injEq, if_true, if_false, ite_true, ite_false, Bool.false_eq_true, eq_self, true_and, and_true, decide_eq_true_eq]
  refine ite2 (fun h3 => ?_) (fun h3 => ?_)
  · rw [Bool.not_eq_true'] at h3
    rw [h3, Bool.false_and] at k
    exact k _ (Ext.refl _)
  have h3 : fromTo 1 1000000 t = true := by simpa using h3
  rw [h3, Bool.true_and] at k
  refine hN _ _ ?_; clear hN N
  simp only [tSeq, tIfS, tTest, tOp, tV, tC, tAsg, gName, gSub, tRet, tRetN, tCB, tCons, tNil, tDrop, tNext, tAnd, tOr, tNot, tAndV, tOrV, tNotV, tIf, tTru, tUn, tCallS, WE, tTup, tLst, tSl, tPart, tNoPart, tPar, tChain, tBM, tBM0, tM0, tM1, gTup, gCons, gNil, tInC, gC, gN, tCallK, tCst, tRevL, ok_str, ok_int, ok_bool, ok_tuple, ok_list, ok_dict, sub_str, sub_tup, sub_lst, sub_bool, sub_int, sub_dict, Bool.not_true, Bool.not_false, kisS_none, kisS_bool, kisS_int, kisS_str, kisS_list, kisS_tuple, kisS_dict, kisT_none, kisT_bool, kisT_int, kisT_str, kisT_list, kisT_tuple, kisT_dict, kisL_none, kisL_bool, kisL_int, kisL_str, kisL_list, kisL_tuple, kisL_dict, kisB_none, kisB_bool, kisB_int, kisB_str, kisB_list, kisB_tuple, kisB_dict, kisI_none, kisI_bool, kisI_int, kisI_str, kisI_list, kisI_tuple, kisI_dict, kisIB_none, kisIB_bool, kisIB_int, kisIB_str, kisIB_list, kisIB_tuple, kisIB_dict, kisD_none, kisD_bool, kisD_int, kisD_str, kisD_list, kisD_tuple, kisD_dict, rEqU, rNeU, rAdd_1, rAdd_2, rAdd_3, rAdd_4, rSub_1, rMul_1, rMul_2, rMul_3, rDiv_1, rMod_1, rPow_1, rNeg_1, rLt_1, rLe_1, rLe_2, rGt_1, rGe_1, rIs_1, rIs_2, rIsNot_1, rIsNot_2, rMem_1, rItem_1, rItem_2, rStore_1, rLen_1, rLen_2, rInt_1, rInt_2, rMax_1, rMin_1, rList_1, rTuple_1, rAbs_1, rIsi_1, rSlice_1, rSlice_2, mAppend_1, mExtend_1, mPop_1, mPop_2, mInsert_1, mUpper_1, rInT_1, eqR_rr, eqR_rs, eqR_ri, eqR_rb, eqR_rn, eqR_sr, eqR_ir, eqR_br, eqR_nr, isCol_l, isCol_t, isCol_d, isSeq_l, isSeq_t, iAny, wipe, tYes, List.isEmpty_nil, List.isEmpty_cons, truN_non, truN_bl, truN_int, tyN_non, tyN_bl, tyN_int, tyN_str, keyOf, scal_nn, scal_nb, scal_ni, scal_ns, scal_nr, scal_bn, scal_bb, scal_bs, scal_br, scal_in, scal_ii, scal_is, scal_ir, scal_sn, scal_sb, scal_si, scal_ss, scal_sr, scal_rn, scal_rb, scal_ri, scal_rs, scal_rr, decide_true, decide_false, List.map_cons, List.map_nil, List.set_cons_zero, List.set_cons_succ, List.getElem?_cons_zero, List.getElem?_cons_succ, List.getElem?_nil, exists_eq_left, exists_eq_left', V.bl.injEq, V.int.injEq, V.str.injEq, V.ref.injEq, if_true, if_false, ite_true, ite_false, Bool.false_eq_true, eq_self, true_and, and_true, decide_eq_true_eq, e, a0]
  refine ⟨rfl, by decide, ?_⟩
  rw [show inV (V.str w) [V.str "save", V.str "release", V.str "back", V.str "commit", V.str "abort", V.str "prepare"] = inWs numWs w from inV_str numWs w]
  refine ite2 (fun hw => ?_) (fun hw => ?_)
  · rw [if_pos hw] at k
    rw [hlen, d2]
    exact k _ (Ext.refl _)
  · rw [if_neg hw] at k
    exact ⟨a, w, t, r, rfl, .tup e (.cons (.str w) (.cons D1 A)), fun d hd => hz d (by simp [hd]), k⟩
end
end Rm
namespace Rm
open PySem PySem.Spec L2
open PyProof.Rows hiding St
abbrev s_law_is_among : Stmt := topS 25
theorem sc_law_is_among : FnScope ["_law_item", "_law_low", "_law_high"] ["_law_item", "_law_low", "_law_high"] (defScope s_law_is_among) := ⟨rfl, rfl, rfl, by decide +kernel, rfl, by decide +kernel, by decide +kernel⟩
abbrev s_law_is_name : Stmt := topS 24
theorem sc_law_is_name : FnScope ["_law_item", "_law_sign"] ["_law_item"] (defScope s_law_is_name) := ⟨rfl, rfl, rfl, by decide +kernel, rfl, by decide +kernel, by decide +kernel⟩
def sp_law_is_among : Sp := fun vs H Q _ => ∃ v d a b, vs = [v, .int a, .int b] ∧ Dr H v d ∧ Q (.bl (fromTo a b d)) H
/-- no letter -/
def odd (c : Nat) : Bool := !(decide (97 ≤ c) && decide (c ≤ 122))
theorem odd_letters : ∀ c : Nat, (!odd c) = decide (c ∈ letters.cps.toList) := fun c => by
  have h : ∀ c : Fin 200, (!odd c.val) = decide (c.val ∈ letters.cps.toList) := by decide +kernel
  by_cases z : c < 200
  · exact h ⟨c, z⟩
  · have h1 : odd c = true := by simp only [odd, Bool.not_eq_true', Bool.and_eq_false_iff, decide_eq_false_iff_not]; omega
    have h2 : ∀ x ∈ letters.cps.toList, x < 200 := by decide +kernel
    rw [h1, decide_eq_false fun m => z (h2 c m)]
    rfl
theorem filter_odd (l : List Nat) (f : Nat → V) : ((l.filter odd).map f).isEmpty = l.all fun c => decide (c ∈ letters.cps.toList) := by
  induction l with
  | nil => rfl
  | cons c r ih =>
    rw [List.all_cons, ← odd_letters c, List.filter_cons]
    cases h : odd c with
    | true => rfl
    | false =>
      rw [if_neg (by decide), ih]
      rfl
theorem le_a (c : Nat) : (!decide ([c] < ("a" : Str).cps.toList)) = decide (97 ≤ c) := by
  have e : ("a" : Str).cps.toList = [97] := by decide
  rw [e, Bool.eq_iff_iff]
  simp only [Bool.not_eq_true', decide_eq_false_iff_not, decide_eq_true_eq, List.cons_lt_cons_iff]
  simp
theorem le_z (c : Nat) : (!decide (("z" : Str).cps.toList < [c])) = decide (c ≤ 122) := by
  have e : ("z" : Str).cps.toList = [122] := by decide
  rw [e, Bool.eq_iff_iff]
  simp only [Bool.not_eq_true', decide_eq_false_iff_not, decide_eq_true_eq, List.cons_lt_cons_iff]
  simp
theorem take_sign_f {α : Type} {z : Str} {i c : Nat} (p : Nat → Bool) (f : Nat → α) (h : z.cps[i]? = some c) : ((z.cps.toList.take (i + 1)).filter p).map f = ((z.cps.toList.take i).filter p).map f ++ (if p c = true then [f c] else []) := by
  have : z.cps.toList[i]? = some c := by simpa using h
  rw [List.take_add_one, this, List.filter_append, List.map_append]
  cases hp : p c <;> simp [hp]
def sp_law_is_name : Sp := fun vs H Q _ => ∃ v d, vs = [v] ∧ Dr H v d ∧ txtOk d ∧ ∀ H', Ext H H' → Q (.bl (isNam d)) H'
section
variable {P : Program} {w : World} {K : PySem.W.Frag} {mg : Str → Option Value} {base : Heap}
theorem ok_law_is_among {f0 : Addr} {fd0 : FuncData} (F : At K mg "_law_is_among" "_law_is_among" s_law_is_among ["_law_item", "_law_low", "_law_high"] f0 fd0) (B : Bt mg)   : Def P w K mg base "_law_is_among" ["_law_item", "_law_low", "_law_high"] 1 sp_law_is_among := by
  refine okD F sc_law_is_among (fun vs H Q E h => by obtain ⟨_, _, _, _, rfl, _⟩ := h; rfl) (fun cdv A outer s H vs Q E hr tk po h => ?_)
  have hu := hu_of hr
  have hu64 := hr.units
  have hc := (show (true : Bool) = true from rfl)
  have nd := sc_law_is_among.nd
  refine ⟨_, (pss_one (ps_ret (pe_and (pe_callB callIsi (by rfl) B.isinstance boot_isinstance (pa_cons (pn 0) (pa_cons (pe_bltn (v := .ty "int") (by rfl) B.int boot_int rfl) pa_nil))) (pe_and (pe_not (pe_callB callIsi (by rfl) B.isinstance boot_isinstance (pa_cons (pn 0) (pa_cons (pe_bltn (v := .ty "bool") (by rfl) B.bool boot_bool rfl) pa_nil)))) (pe_one (pe_chain opLe opLe (pn 1) (pn 0) (pn 2))))))), ?_⟩
  clear hu hu64 hc nd tk po hr B
  obtain ⟨v, d, a, b, rfl, hd, k⟩ := h
  rw [show L2.start _ _ = [some v, some (.int a), some (.int b)] from rfl]
  simp only [tSeq, tIfS, tTest, tOp, tV, tC, tAsg, gName, gSub, tRet, tRetN, tCB, tCons, tNil, tDrop, tNext, tAnd, tOr, tNot, tAndV, tOrV, tNotV, tIf, tTru, tUn, tCallS, WE, tTup, tLst, tSl, tPart, tNoPart, tPar, tChain, tBM, tBM0, tM0, tM1, gTup, gCons, gNil, tInC, gC, gN, tCallK, tCst, tRevL, ok_str, ok_int, ok_bool, ok_tuple, ok_list, ok_dict, sub_str, sub_tup, sub_lst, sub_bool, sub_int, sub_dict, Bool.not_true, Bool.not_false, kisS_none, kisS_bool, kisS_int, kisS_str, kisS_list, kisS_tuple, kisS_dict, kisT_none, kisT_bool, kisT_int, kisT_str, kisT_list, kisT_tuple, kisT_dict, kisL_none, kisL_bool, kisL_int, kisL_str, kisL_list, kisL_tuple, kisL_dict, kisB_none, kisB_bool, kisB_int, kisB_str, kisB_list, kisB_tuple, kisB_dict, kisI_none, kisI_bool, kisI_int, kisI_str, kisI_list, kisI_tuple, kisI_dict, kisIB_none, kisIB_bool, kisIB_int, kisIB_str, kisIB_list, kisIB_tuple, kisIB_dict, kisD_none, kisD_bool, kisD_int, kisD_str, kisD_list, kisD_tuple, kisD_dict, rEqU, rNeU, rAdd_1, rAdd_2, rAdd_3, rAdd_4, rSub_1, rMul_1, rMul_2, rMul_3, rDiv_1, rMod_1, rPow_1, rNeg_1, rLt_1, rLe_1, rLe_2, rGt_1, rGe_1, rIs_1, rIs_2, rIsNot_1, rIsNot_2, rMem_1, rItem_1, rItem_2, rStore_1, rLen_1, rLen_2, rInt_1, rInt_2, rMax_1, rMin_1, rList_1, rTuple_1, rAbs_1, rIsi_1, rSlice_1, rSlice_2, mAppend_1, mExtend_1, mPop_1, mPop_2, mInsert_1, mUpper_1, rInT_1, eqR_rr, eqR_rs, eqR_ri, eqR_rb, eqR_rn, eqR_sr, eqR_ir, eqR_br, eqR_nr, isCol_l, isCol_t, isCol_d, isSeq_l, isSeq_t, iAny, wipe, tYes, List.isEmpty_nil, List.isEmpty_cons, truN_non, truN_bl, truN_int, tyN_non, tyN_bl, tyN_int, tyN_str, keyOf, scal_nn, scal_nb, scal_ni, scal_ns, scal_nr, scal_bn, scal_bb, scal_bs, scal_br, scal_in, scal_ii, scal_is, scal_ir, scal_sn, scal_sb, scal_si, scal_ss, scal_sr, scal_rn, scal_rb, scal_ri, scal_rs, scal_rr, decide_true, decide_false, List.map_cons, List.map_nil, List.set_cons_zero, List.set_cons_succ, List.getElem?_cons_zero, List.getElem?_cons_succ, List.getElem?_nil, exists_eq_left, exists_eq_left', V.bl.injEq, V.int.injEq, V.str.injEq, V.ref.injEq, if_true, if_false, ite_true, ite_false, Bool.false_eq_true, eq_self, true_and, and_true, decide_eq_true_eq, tyN_dr hd]
  by_cases hI : isI d = true
  · obtain ⟨i, rfl⟩ := of_isI hI
    obtain rfl := dr_int hd
    simp only [tSeq, tIfS, tTest, tOp, tV, tC, tAsg, gName, gSub, tRet, tRetN, tCB, tCons, tNil, tDrop, tNext, tAnd, tOr, tNot, tAndV, tOrV, tNotV, tIf, tTru, tUn, tCallS, WE, tTup, tLst, tSl, tPart, tNoPart, tPar, tChain, tBM, tBM0, tM0, tM1, gTup, gCons, gNil, tInC, gC, gN, tCallK, tCst, tRevL, ok_str, ok_int, ok_bool, ok_tuple, ok_list, ok_dict, sub_str, sub_tup, sub_lst, sub_bool, sub_int, sub_dict, Bool.not_true, Bool.not_false, kisS_none, kisS_bool, kisS_int, kisS_str, kisS_list, kisS_tuple, kisS_dict, kisT_none, kisT_bool, kisT_int, kisT_str, kisT_list, kisT_tuple, kisT_dict, kisL_none, kisL_bool, kisL_int, kisL_str, kisL_list, kisL_tuple, kisL_dict, kisB_none, kisB_bool, kisB_int, kisB_str, kisB_list, kisB_tuple, kisB_dict, kisI_none, kisI_bool, kisI_int, kisI_str, kisI_list, kisI_tuple, kisI_dict, kisIB_none, kisIB_bool, kisIB_int, kisIB_str, kisIB_list, kisIB_tuple, kisIB_dict, kisD_none, kisD_bool, kisD_int, kisD_str, kisD_list, kisD_tuple, kisD_dict, rEqU, rNeU, rAdd_1, rAdd_2, rAdd_3, rAdd_4, rSub_1, rMul_1, rMul_2, rMul_3, rDiv_1, rMod_1, rPow_1, rNeg_1, rLt_1, rLe_1, rLe_2, rGt_1, rGe_1, rIs_1, rIs_2, rIsNot_1, rIsNot_2, rMem_1, rItem_1, rItem_2, rStore_1, rLen_1, rLen_2, rInt_1, rInt_2, rMax_1, rMin_1, rList_1, rTuple_1, rAbs_1, rIsi_1, rSlice_1, rSlice_2, mAppend_1, mExtend_1, mPop_1, mPop_2, mInsert_1, mUpper_1, rInT_1, eqR_rr, eqR_rs, eqR_ri, eqR_rb, eqR_rn, eqR_sr, eqR_ir, eqR_br, eqR_nr, isCol_l, isCol_t, isCol_d, isSeq_l, isSeq_t, iAny, wipe, tYes, List.isEmpty_nil, List.isEmpty_cons, truN_non, truN_bl, truN_int, tyN_non, tyN_bl, tyN_int, tyN_str, keyOf, scal_nn, scal_nb, scal_ni, scal_ns, scal_nr, scal_bn, scal_bb, scal_bs, scal_br, scal_in, scal_ii, scal_is, scal_ir, scal_sn, scal_sb, scal_si, scal_ss, scal_sr, scal_rn, scal_rb, scal_ri, scal_rs, scal_rr, decide_true, decide_false, List.map_cons, List.map_nil, List.set_cons_zero, List.set_cons_succ, List.getElem?_cons_zero, List.getElem?_cons_succ, List.getElem?_nil, exists_eq_left, exists_eq_left', V.bl.injEq, V.int.injEq, V.str.injEq, V.ref.injEq, if_true, if_false, ite_true, ite_false, Bool.false_eq_true, eq_self, true_and, and_true, decide_eq_true_eq]
    simp only [fromTo] at k
    refine ite2 (fun h1 => ?_) (fun h1 => ?_)
    · rw [decide_eq_true h1, Bool.true_and] at k
      exact k
    · rw [decide_eq_false h1, Bool.false_and] at k
      exact k
  · have e : fromTo a b d = false := by cases d <;> first | exact absurd rfl hI | rfl
    rw [e] at k
    refine ite2 (fun h1 => ite2 (fun h2 => ?_) (fun _ => k)) (fun _ => k)
    cases d <;> first | exact absurd rfl hI | (cases h2; done) | (cases h1; done)
theorem ok_law_is_name {f0 : Addr} {fd0 : FuncData} (F : At K mg "_law_is_name" "_law_is_name" s_law_is_name ["_law_item"] f0 fd0) (B : Bt mg)   : Def P w K mg base "_law_is_name" ["_law_item"] 1 sp_law_is_name := by
  refine okD F sc_law_is_name (fun vs H Q E h => by obtain ⟨_, _, rfl, _⟩ := h; rfl) (fun cdv A outer s H vs Q E hr tk po h => ?_)
  have hu := hu_of hr
  have hu64 := hr.units
  have hc := (show (true : Bool) = true from rfl)
  have nd := sc_law_is_name.nd
  refine ⟨_, (pss_cons (ps_if (PW.pt (pw_or (pt_not (pt_tru (pe_callB callIsi (by rfl) B.isinstance boot_isinstance (pa_cons (pn 0) (pa_cons (pe_bltn (v := .ty "str") (by rfl) B.str boot_str rfl) pa_nil))))) (pw_or1 (pt_not (pt_chain opLe opLe pe_int (pe_callB callLen (by rfl) B.len bt_len (pa_cons (pn 0) pa_nil)) pe_int))))) (pss_one (ps_ret pe_bl)) pss_nil)
      (pss_one (ps_ret (pe_cmpR (opEq hu64) (pe_lc (own := [("_law_sign", 1)]) hc nd (pi_any (pn 0)) (blkOk_by (own := [("_law_sign", 1)]) (N := ["_law_item", "_law_sign"]) (sc := defScope s_law_is_name) (by decide +kernel)) (fun _ _ _ _ _ => (pg_name (i := 1) nd rfl (Or.inl rfl))) (fun _ _ _ _ _ => pts_one (pt_not (pt_chain opLe opLe pe_str (pn 1) pe_str))) (fun _ _ _ _ _ => (pn 1))) (pe_lst pa_nil) (nomark _))))), ?_⟩
  clear hu hu64 hc nd tk po hr B
  obtain ⟨v, d, rfl, hd, hl, k⟩ := h
  rw [show L2.start _ _ = [some v, none] from rfl]
  have no : isNam d = false → Q (.bl false) H := fun e => e ▸ k H (Ext.refl H)
  refine sq fun N hN => ?_
  simp only [tSeq, tIfS, tTest, tOp, tV, tC, tAsg, gName, gSub, tRet, tRetN, tCB, tCons, tNil, tDrop, tNext, tAnd, tOr, tNot, tAndV, tOrV, tNotV, tIf, tTru, tUn, tCallS, WE, tTup, tLst, tSl, tPart, tNoPart, tPar, tChain, tBM, tBM0, tM0, tM1, gTup, gCons, gNil, tInC, gC, gN, tCallK, tCst, tRevL, ok_str, ok_int, ok_bool, ok_tuple, ok_list, ok_dict, sub_str, sub_tup, sub_lst, sub_bool, sub_int, sub_dict, Bool.not_true, Bool.not_false, kisS_none, kisS_bool, kisS_int, kisS_str, kisS_list, kisS_tuple, kisS_dict, kisT_none, kisT_bool, kisT_int, kisT_str, kisT_list, kisT_tuple, kisT_dict, kisL_none, kisL_bool, kisL_int, kisL_str, kisL_list, kisL_tuple, kisL_dict, kisB_none, kisB_bool, kisB_int, kisB_str, kisB_list, kisB_tuple, kisB_dict, kisI_none, kisI_bool, kisI_int, kisI_str, kisI_list, kisI_tuple, kisI_dict, kisIB_none, kisIB_bool, kisIB_int, kisIB_str, kisIB_list, kisIB_tuple, kisIB_dict, kisD_none, kisD_bool, kisD_int, kisD_str, kisD_list, kisD_tuple, kisD_dict, rEqU, rNeU, rAdd_1, rAdd_2, rAdd_3, rAdd_4, rSub_1, rMul_1, rMul_2, rMul_3, rDiv_1, rMod_1, rPow_1, rNeg_1, rLt_1, rLe_1, rLe_2, rGt_1, rGe_1, rIs_1, rIs_2, rIsNot_1, rIsNot_2, rMem_1, rItem_1, rItem_2, rStore_1, rLen_1, rLen_2, rInt_1, rInt_2, rMax_1, rMin_1, rList_1, rTuple_1, rAbs_1, rIsi_1, rSlice_1, rSlice_2, mAppend_1, mExtend_1, mPop_1, mPop_2, mInsert_1, mUpper_1, rInT_1, eqR_rr, eqR_rs, eqR_ri, eqR_rb, eqR_rn, eqR_sr, eqR_ir, eqR_br, eqR_nr, isCol_l, isCol_t, isCol_d, isSeq_l, isSeq_t, iAny, wipe, tYes, List.isEmpty_nil, List.isEmpty_cons, truN_non, truN_bl, truN_int, tyN_non, tyN_bl, tyN_int, tyN_str, keyOf, scal_nn, scal_nb, scal_ni, scal_ns, scal_nr, scal_bn, scal_bb, scal_bs, scal_br, scal_in, scal_ii, scal_is, scal_ir, scal_sn, scal_sb, scal_si, scal_ss, scal_sr, scal_rn, scal_rb, scal_ri, scal_rs, scal_rr, decide_true, decide_false, List.map_cons, List.map_nil, List.set_cons_zero, List.set_cons_succ, List.getElem?_cons_zero, List.getElem?_cons_succ, List.getElem?_nil, exists_eq_left, exists_eq_left', V.bl.injEq, V.int.injEq, V.str.injEq, V.ref.injEq, if_true, if_false, ite_true, ite_false, Bool.false_eq_true, eq_self, true_and, and_true, decide_eq_true_eq, tyN_dr hd]
  by_cases hs : isS d = true
  rotate_left
  · rw [not_isT' hs]
    simp only [tSeq, tIfS, tTest, tOp, tV, tC, tAsg, gName, gSub, tRet, tRetN, tCB, tCons, tNil, tDrop, tNext, tAnd, tOr, tNot, tAndV, tOrV, tNotV, tIf, tTru, tUn, tCallS, WE, tTup, tLst, tSl, tPart, tNoPart, tPar, tChain, tBM, tBM0, tM0, tM1, gTup, gCons, gNil, tInC, gC, gN, tCallK, tCst, tRevL, ok_str, ok_int, ok_bool, ok_tuple, ok_list, ok_dict, sub_str, sub_tup, sub_lst, sub_bool, sub_int, sub_dict, Bool.not_true, Bool.not_false, kisS_none, kisS_bool, kisS_int, kisS_str, kisS_list, kisS_tuple, kisS_dict, kisT_none, kisT_bool, kisT_int, kisT_str, kisT_list, kisT_tuple, kisT_dict, kisL_none, kisL_bool, kisL_int, kisL_str, kisL_list, kisL_tuple, kisL_dict, kisB_none, kisB_bool, kisB_int, kisB_str, kisB_list, kisB_tuple, kisB_dict, kisI_none, kisI_bool, kisI_int, kisI_str, kisI_list, kisI_tuple, kisI_dict, kisIB_none, kisIB_bool, kisIB_int, kisIB_str, kisIB_list, kisIB_tuple, kisIB_dict, kisD_none, kisD_bool, kisD_int, kisD_str, kisD_list, kisD_tuple, kisD_dict, rEqU, rNeU, rAdd_1, rAdd_2, rAdd_3, rAdd_4, rSub_1, rMul_1, rMul_2, rMul_3, rDiv_1, rMod_1, rPow_1, rNeg_1, rLt_1, rLe_1, rLe_2, rGt_1, rGe_1, rIs_1, rIs_2, rIsNot_1, rIsNot_2, rMem_1, rItem_1, rItem_2, rStore_1, rLen_1, rLen_2, rInt_1, rInt_2, rMax_1, rMin_1, rList_1, rTuple_1, rAbs_1, rIsi_1, rSlice_1, rSlice_2, mAppend_1, mExtend_1, mPop_1, mPop_2, mInsert_1, mUpper_1, rInT_1, eqR_rr, eqR_rs, eqR_ri, eqR_rb, eqR_rn, eqR_sr, eqR_ir, eqR_br, eqR_nr, isCol_l, isCol_t, isCol_d, isSeq_l, isSeq_t, iAny, wipe, tYes, List.isEmpty_nil, List.isEmpty_cons, truN_non, truN_bl, truN_int, tyN_non, tyN_bl, tyN_int, tyN_str, keyOf, scal_nn, scal_nb, scal_ni, scal_ns, scal_nr, scal_bn, scal_bb, scal_bs, scal_br, scal_in, scal_ii, scal_is, scal_ir, scal_sn, scal_sb, scal_si, scal_ss, scal_sr, scal_rn, scal_rb, scal_ri, scal_rs, scal_rr, decide_true, decide_false, List.map_cons, List.map_nil, List.set_cons_zero, List.set_cons_succ, List.getElem?_cons_zero, List.getElem?_cons_succ, List.getElem?_nil, exists_eq_left, exists_eq_left', V.bl.injEq, V.int.injEq, V.str.injEq, V.ref.injEq, if_true, if_false, ite_true, ite_false, Bool.false_eq_true, eq_self, true_and, and_true, decide_eq_true_eq]
    exact no (by cases d <;> first | exact absurd rfl hs | rfl)
  obtain ⟨s, rfl⟩ := of_isS hs
  obtain rfl := dr_str hd
  have hl := hl s rfl
  have hz : s.length ≤ sizeLine := Nat.le_trans hl (by decide)
  simp only [tSeq, tIfS, tTest, tOp, tV, tC, tAsg, gName, gSub, tRet, tRetN, tCB, tCons, tNil, tDrop, tNext, tAnd, tOr, tNot, tAndV, tOrV, tNotV, tIf, tTru, tUn, tCallS, WE, tTup, tLst, tSl, tPart, tNoPart, tPar, tChain, tBM, tBM0, tM0, tM1, gTup, gCons, gNil, tInC, gC, gN, tCallK, tCst, tRevL, ok_str, ok_int, ok_bool, ok_tuple, ok_list, ok_dict, sub_str, sub_tup, sub_lst, sub_bool, sub_int, sub_dict, Bool.not_true, Bool.not_false, kisS_none, kisS_bool, kisS_int, kisS_str, kisS_list, kisS_tuple, kisS_dict, kisT_none, kisT_bool, kisT_int, kisT_str, kisT_list, kisT_tuple, kisT_dict, kisL_none, kisL_bool, kisL_int, kisL_str, kisL_list, kisL_tuple, kisL_dict, kisB_none, kisB_bool, kisB_int, kisB_str, kisB_list, kisB_tuple, kisB_dict, kisI_none, kisI_bool, kisI_int, kisI_str, kisI_list, kisI_tuple, kisI_dict, kisIB_none, kisIB_bool, kisIB_int, kisIB_str, kisIB_list, kisIB_tuple, kisIB_dict, kisD_none, kisD_bool, kisD_int, kisD_str, kisD_list, kisD_tuple, kisD_dict, rEqU, rNeU, rAdd_1, rAdd_2, rAdd_3, rAdd_4, rSub_1, rMul_1, rMul_2, rMul_3, rDiv_1, rMod_1, rPow_1, rNeg_1, rLt_1, rLe_1, rLe_2, rGt_1, rGe_1, rIs_1, rIs_2, rIsNot_1, rIsNot_2, rMem_1, rItem_1, rItem_2, rStore_1, rLen_1, rLen_2, rInt_1, rInt_2, rMax_1, rMin_1, rList_1, rTuple_1, rAbs_1, rIsi_1, rSlice_1, rSlice_2, mAppend_1, mExtend_1, mPop_1, mPop_2, mInsert_1, mUpper_1, rInT_1, eqR_rr, eqR_rs, eqR_ri, eqR_rb, eqR_rn, eqR_sr, eqR_ir, eqR_br, eqR_nr, isCol_l, isCol_t, isCol_d, isSeq_l, isSeq_t, iAny, wipe, tYes, List.isEmpty_nil, List.isEmpty_cons, truN_non, truN_bl, truN_int, tyN_non, tyN_bl, tyN_int, tyN_str, keyOf, scal_nn, scal_nb, scal_ni, scal_ns, scal_nr, scal_bn, scal_bb, scal_bs, scal_br, scal_in, scal_ii, scal_is, scal_ir, scal_sn, scal_sb, scal_si, scal_ss, scal_sr, scal_rn, scal_rb, scal_ri, scal_rs, scal_rr, decide_true, decide_false, List.map_cons, List.map_nil, List.set_cons_zero, List.set_cons_succ, List.getElem?_cons_zero, List.getElem?_cons_succ, List.getElem?_nil, exists_eq_left, exists_eq_left', V.bl.injEq, V.int.injEq, V.str.injEq, V.ref.injEq, if_true, if_false, ite_true, ite_false, Bool.false_eq_true, eq_self, true_and, and_true, decide_eq_true_eq]
  refine ⟨hz, ite2 (fun h1 => ite2 (fun h2 => no ?_) (fun h2 => ?_)) (fun h1 => no ?_)⟩
  · have e : decide (s.length ≤ 6) = false := decide_eq_false (by simp only [Bool.not_eq_true', decide_eq_false_iff_not] at h2; omega)
    simp only [isNam, nameS, e, Bool.and_false, Bool.false_and]
  rotate_left
  · have e : decide (1 ≤ s.length) = false := decide_eq_false (by omega)
    simp only [isNam, nameS, e, Bool.false_and]
  have e1 : decide (1 ≤ s.length) = true := decide_eq_true (by omega)
  have e2 : decide (s.length ≤ 6) = true := decide_eq_true (by simp only [Bool.not_eq_true', decide_eq_false_iff_not, Decidable.not_not] at h2; omega)
  have h6 : s.length ≤ 6 := of_decide_eq_true e2
  have k : ∀ H', Ext H H' → Q (.bl (s.cps.toList.all fun c => decide (c ∈ letters.cps.toList))) H' := by
    simp only [isNam, nameS, e1, e2, Bool.true_and] at k
    exact k
  refine hN _ _ ?_; clear hN N
  refine fun D hD => ?_
  refine lc_it walk_str (fun i H' => H' = upd H D (.lst (((s.cps.toList.take i).filter odd).map fun c => V.str ⟨#[c]⟩))) rfl (fun _ _ _ _ => trivial) (fun i x H1 H2 hi p y => ?_) (fun H1 p => ?_)
  · obtain ⟨rfl, c, hc, rfl⟩ := y
    subst p
    have ts := take_sign_f odd (fun c => V.str ⟨#[c]⟩) hc
    have hsz : ∀ l : List V, l = (((s.cps.toList.take i).filter odd).map fun c => V.str ⟨#[c]⟩) → l.length < sizeLine := fun l e => by
      have a1 : ((s.cps.toList.take i).filter odd).length ≤ (s.cps.toList.take i).length := List.length_filter_le _ _
      have a2 : s.cps.toList.length = s.length := Array.length_toList
      have big : 1000 ≤ sizeLine := by decide
      rw [e, List.length_map]
      rw [List.length_take] at a1
      omega
    have yes : odd c = true → ∃ acc, upd H D (.lst (((s.cps.toList.take i).filter odd).map fun c => V.str ⟨#[c]⟩)) D = some (.lst acc) ∧ acc.length < sizeLine ∧
        upd (upd H D (.lst (((s.cps.toList.take i).filter odd).map fun c => V.str ⟨#[c]⟩))) D (.lst (acc ++ [V.str ⟨#[c]⟩])) = upd H D (.lst (((s.cps.toList.take (i + 1)).filter odd).map fun c => V.str ⟨#[c]⟩)) := fun ho =>
      ⟨_, upd_same, hsz _ rfl, by rw [upd_upd, ts, if_pos ho]⟩
    simp only [tSeq, tIfS, tTest, tOp, tV, tC, tAsg, gName, gSub, tRet, tRetN, tCB, tCons, tNil, tDrop, tNext, tAnd, tOr, tNot, tAndV, tOrV, tNotV, tIf, tTru, tUn, tCallS, WE, tTup, tLst, tSl, tPart, tNoPart, tPar, tChain, tBM, tBM0, tM0, tM1, gTup, gCons, gNil, tInC, gC, gN, tCallK, tCst, tRevL, ok_str, ok_int, ok_bool, ok_tuple, ok_list, ok_dict, sub_str, sub_tup, sub_lst, sub_bool, sub_int, sub_dict, Bool.not_true, Bool.not_false, kisS_none, kisS_bool, kisS_int, kisS_str, kisS_list, kisS_tuple, kisS_dict, kisT_none, kisT_bool, kisT_int, kisT_str, kisT_list, kisT_tuple, kisT_dict, kisL_none, kisL_bool, kisL_int, kisL_str, kisL_list, kisL_tuple, kisL_dict, kisB_none, kisB_bool, kisB_int, kisB_str, kisB_list, kisB_tuple, kisB_dict, kisI_none, kisI_bool, kisI_int, kisI_str, kisI_list, kisI_tuple, kisI_dict, kisIB_none, kisIB_bool, kisIB_int, kisIB_str, kisIB_list, kisIB_tuple, kisIB_dict, kisD_none, kisD_bool, kisD_int, kisD_str, kisD_list, kisD_tuple, kisD_dict, rEqU, rNeU, rAdd_1, rAdd_2, rAdd_3, rAdd_4, rSub_1, rMul_1, rMul_2, rMul_3, rDiv_1, rMod_1, rPow_1, rNeg_1, rLt_1, rLe_1, rLe_2, rGt_1, rGe_1, rIs_1, rIs_2, rIsNot_1, rIsNot_2, rMem_1, rItem_1, rItem_2, rStore_1, rLen_1, rLen_2, rInt_1, rInt_2, rMax_1, rMin_1, rList_1, rTuple_1, rAbs_1, rIsi_1, rSlice_1, rSlice_2, mAppend_1, mExtend_1, mPop_1, mPop_2, mInsert_1, mUpper_1, rInT_1, eqR_rr, eqR_rs, eqR_ri, eqR_rb, eqR_rn, eqR_sr, eqR_ir, eqR_br, eqR_nr, isCol_l, isCol_t, isCol_d, isSeq_l, isSeq_t, iAny, wipe, tYes, List.isEmpty_nil, List.isEmpty_cons, truN_non, truN_bl, truN_int, tyN_non, tyN_bl, tyN_int, tyN_str, keyOf, scal_nn, scal_nb, scal_ni, scal_ns, scal_nr, scal_bn, scal_bb, scal_bs, scal_br, scal_in, scal_ii, scal_is, scal_ir, scal_sn, scal_sb, scal_si, scal_ss, scal_sr, scal_rn, scal_rb, scal_ri, scal_rs, scal_rr, decide_true, decide_false, List.map_cons, List.map_nil, List.set_cons_zero, List.set_cons_succ, List.getElem?_cons_zero, List.getElem?_cons_succ, List.getElem?_nil, exists_eq_left, exists_eq_left', V.bl.injEq, V.int.injEq, V.str.injEq, V.ref.injEq, if_true, if_false, ite_true, ite_false, Bool.false_eq_true, eq_self, true_and, and_true, decide_eq_true_eq]
    rw [le_a, le_z]
    refine ite2 (fun h1 => ite2 (fun h2 => yes ?_) (fun h2 => ?_)) (fun h1 => yes ?_)
    · simp only [odd, h1, Bool.true_and]
      exact h2
    · have ho : odd c = false := by
        simp only [odd, h1, Bool.true_and]
        exact not_isT' h2
      rw [ts, ho]
      simp
    · simp only [odd, not_isT' h1, Bool.false_and]
      rfl
  · subst p
    have ea : s.cps.toList.take s.cps.size = s.cps.toList := List.take_of_length_le (by rw [Array.length_toList]; exact Nat.le_refl _)
    rw [ea]
    have x1 : Ext H (upd H D (.lst ((s.cps.toList.filter odd).map fun c => V.str ⟨#[c]⟩))) := Ext.new hD
    have rd : rdo (upd H D (.lst ((s.cps.toList.filter odd).map fun c => V.str ⟨#[c]⟩))) D = some (.lst ((s.cps.toList.filter odd).map fun c => V.str ⟨#[c]⟩)) := rdo_of upd_same (fun _ _ z => nomatch z)
    generalize upd H D (.lst ((s.cps.toList.filter odd).map fun c => V.str ⟨#[c]⟩)) = H1 at x1 rd ⊢
    simp only [tSeq, tIfS, tTest, tOp, tV, tC, tAsg, gName, gSub, tRet, tRetN, tCB, tCons, tNil, tDrop, tNext, tAnd, tOr, tNot, tAndV, tOrV, tNotV, tIf, tTru, tUn, tCallS, WE, tTup, tLst, tSl, tPart, tNoPart, tPar, tChain, tBM, tBM0, tM0, tM1, gTup, gCons, gNil, tInC, gC, gN, tCallK, tCst, tRevL, ok_str, ok_int, ok_bool, ok_tuple, ok_list, ok_dict, sub_str, sub_tup, sub_lst, sub_bool, sub_int, sub_dict, Bool.not_true, Bool.not_false, kisS_none, kisS_bool, kisS_int, kisS_str, kisS_list, kisS_tuple, kisS_dict, kisT_none, kisT_bool, kisT_int, kisT_str, kisT_list, kisT_tuple, kisT_dict, kisL_none, kisL_bool, kisL_int, kisL_str, kisL_list, kisL_tuple, kisL_dict, kisB_none, kisB_bool, kisB_int, kisB_str, kisB_list, kisB_tuple, kisB_dict, kisI_none, kisI_bool, kisI_int, kisI_str, kisI_list, kisI_tuple, kisI_dict, kisIB_none, kisIB_bool, kisIB_int, kisIB_str, kisIB_list, kisIB_tuple, kisIB_dict, kisD_none, kisD_bool, kisD_int, kisD_str, kisD_list, kisD_tuple, kisD_dict, rEqU, rNeU, rAdd_1, rAdd_2, rAdd_3, rAdd_4, rSub_1, rMul_1, rMul_2, rMul_3, rDiv_1, rMod_1, rPow_1, rNeg_1, rLt_1, rLe_1, rLe_2, rGt_1, rGe_1, rIs_1, rIs_2, rIsNot_1, rIsNot_2, rMem_1, rItem_1, rItem_2, rStore_1, rLen_1, rLen_2, rInt_1, rInt_2, rMax_1, rMin_1, rList_1, rTuple_1, rAbs_1, rIsi_1, rSlice_1, rSlice_2, mAppend_1, mExtend_1, mPop_1, mPop_2, mInsert_1, mUpper_1, rInT_1, eqR_rr, eqR_rs, eqR_ri, eqR_rb, eqR_rn, eqR_sr, eqR_ir, eqR_br, eqR_nr, isCol_l, isCol_t, isCol_d, isSeq_l, isSeq_t, iAny, wipe, tYes, List.isEmpty_nil, List.isEmpty_cons, truN_non, truN_bl, truN_int, tyN_non, tyN_bl, tyN_int, tyN_str, keyOf, scal_nn, scal_nb, scal_ni, scal_ns, scal_nr, scal_bn, scal_bb, scal_bs, scal_br, scal_in, scal_ii, scal_is, scal_ir, scal_sn, scal_sb, scal_si, scal_ss, scal_sr, scal_rn, scal_rb, scal_ri, scal_rs, scal_rr, decide_true, decide_false, List.map_cons, List.map_nil, List.set_cons_zero, List.set_cons_succ, List.getElem?_cons_zero, List.getElem?_cons_succ, List.getElem?_nil, exists_eq_left, exists_eq_left', V.bl.injEq, V.int.injEq, V.str.injEq, V.ref.injEq, if_true, if_false, ite_true, ite_false, Bool.false_eq_true, eq_self, true_and, and_true, decide_eq_true_eq]
    refine ⟨by show 0 ≤ sizeLine; decide, fun p hp => ?_⟩
    have x2 : Ext H1 (upd H1 p (.lst [])) := Ext.new hp
    have rp : rdo (upd H1 p (.lst [])) p = some (.lst []) := rdo_of upd_same (fun _ _ z => nomatch z)
    simp only [tSeq, tIfS, tTest, tOp, tV, tC, tAsg, gName, gSub, tRet, tRetN, tCB, tCons, tNil, tDrop, tNext, tAnd, tOr, tNot, tAndV, tOrV, tNotV, tIf, tTru, tUn, tCallS, WE, tTup, tLst, tSl, tPart, tNoPart, tPar, tChain, tBM, tBM0, tM0, tM1, gTup, gCons, gNil, tInC, gC, gN, tCallK, tCst, tRevL, ok_str, ok_int, ok_bool, ok_tuple, ok_list, ok_dict, sub_str, sub_tup, sub_lst, sub_bool, sub_int, sub_dict, Bool.not_true, Bool.not_false, kisS_none, kisS_bool, kisS_int, kisS_str, kisS_list, kisS_tuple, kisS_dict, kisT_none, kisT_bool, kisT_int, kisT_str, kisT_list, kisT_tuple, kisT_dict, kisL_none, kisL_bool, kisL_int, kisL_str, kisL_list, kisL_tuple, kisL_dict, kisB_none, kisB_bool, kisB_int, kisB_str, kisB_list, kisB_tuple, kisB_dict, kisI_none, kisI_bool, kisI_int, kisI_str, kisI_list, kisI_tuple, kisI_dict, kisIB_none, kisIB_bool, kisIB_int, kisIB_str, kisIB_list, kisIB_tuple, kisIB_dict, kisD_none, kisD_bool, kisD_int, kisD_str, kisD_list, kisD_tuple, kisD_dict, rEqU, rNeU, rAdd_1, rAdd_2, rAdd_3, rAdd_4, rSub_1, rMul_1, rMul_2, rMul_3, rDiv_1, rMod_1, rPow_1, rNeg_1, rLt_1, rLe_1, rLe_2, rGt_1, rGe_1, rIs_1, rIs_2, rIsNot_1, rIsNot_2, rMem_1, rItem_1, rItem_2, rStore_1, rLen_1, rLen_2, rInt_1, rInt_2, rMax_1, rMin_1, rList_1, rTuple_1, rAbs_1, rIsi_1, rSlice_1, rSlice_2, mAppend_1, mExtend_1, mPop_1, mPop_2, mInsert_1, mUpper_1, rInT_1, eqR_rr, eqR_rs, eqR_ri, eqR_rb, eqR_rn, eqR_sr, eqR_ir, eqR_br, eqR_nr, isCol_l, isCol_t, isCol_d, isSeq_l, isSeq_t, iAny, wipe, tYes, List.isEmpty_nil, List.isEmpty_cons, truN_non, truN_bl, truN_int, tyN_non, tyN_bl, tyN_int, tyN_str, keyOf, scal_nn, scal_nb, scal_ni, scal_ns, scal_nr, scal_bn, scal_bb, scal_bs, scal_br, scal_in, scal_ii, scal_is, scal_ir, scal_sn, scal_sb, scal_si, scal_ss, scal_sr, scal_rn, scal_rb, scal_ri, scal_rs, scal_rr, decide_true, decide_false, List.map_cons, List.map_nil, List.set_cons_zero, List.set_cons_succ, List.getElem?_cons_zero, List.getElem?_cons_succ, List.getElem?_nil, exists_eq_left, exists_eq_left', V.bl.injEq, V.int.injEq, V.str.injEq, V.ref.injEq, if_true, if_false, ite_true, ite_false, Bool.false_eq_true, eq_self, true_and, and_true, decide_eq_true_eq, rdo_ext rd x2, rp]
    rw [filter_odd]
    exact k _ (x1.trans x2)
end
end Rm
namespace Rm
open PySem PySem.Spec L2
open PyProof.Rows hiding St
abbrev s_law_is_deed : Stmt := topS 26
theorem sc_law_is_deed : FnScope ["_law_item", "_law_word", "_law_size", "_law_plain", "_law_modes"] ["_law_item"] (defScope s_law_is_deed) := ⟨rfl, rfl, rfl, by decide +kernel, rfl, by decide +kernel, by decide +kernel⟩
def lcWs : List Str := ["lock", "change"]
theorem isVal_eq (d : PyData) : fromTo (1 - 10 ^ (30 : Int).toNat) (10 ^ (30 : Int).toNat - 1) d = isVal d := by
  cases d <;> first
    | rfl
    | (have e : (10 : Int) ^ (30 : Int).toNat = 1000000000000000000000000000000 := by decide
       simp only [fromTo, isVal, e]
       rw [Bool.eq_iff_iff, Bool.and_eq_true, decide_eq_true_eq, decide_eq_true_eq, decide_eq_true_eq]
       split <;> omega)
theorem inWs_app (a b : List Str) (w : Str) : inWs (a ++ b) w = (inWs a w || inWs b w) := List.any_append
def sp_law_is_deed : Sp := fun vs H Q _ => ∃ v d, vs = [v] ∧ Dr H v d ∧ allTxt d ∧ ∀ H', Ext H H' → Q (.bl (isOp d)) H'
section
variable {P : Program} {w : World} {K : PySem.W.Frag} {mg : Str → Option Value} {base : Heap}
theorem ok_law_is_deed {f0 : Addr} {fd0 : FuncData} (F : At K mg "_law_is_deed" "_law_is_deed" s_law_is_deed ["_law_item"] f0 fd0) (B : Bt mg)  (D_law_is_among : Def P w K mg base "_law_is_among" ["_law_item", "_law_low", "_law_high"] 1 sp_law_is_among) (D_law_is_name : Def P w K mg base "_law_is_name" ["_law_item"] 1 sp_law_is_name) : Def P w K mg base "_law_is_deed" ["_law_item"] 2 sp_law_is_deed := by
  refine okD F sc_law_is_deed (fun vs H Q E h => by obtain ⟨_, _, rfl, _⟩ := h; rfl) (fun cdv A outer s H vs Q E hr tk po h => ?_)
  have hu := hu_of hr
  have hu64 := hr.units
  have hc := (show (true : Bool) = true from rfl)
  have nd := sc_law_is_deed.nd
  refine ⟨_, (pss_cons (ps_if (PW.pt (pw_or (pt_not (pt_tru (pe_callB callIsi (by rfl) B.isinstance boot_isinstance (pa_cons (pn 0) (pa_cons (pe_bltn (v := .ty "tuple") (by rfl) B.tuple boot_tuple rfl) pa_nil))))) (pw_or (pt_cmpR (opEq hu64) (pn 0) (pe_tup pa_nil) (nomark _)) (pw_or1 (pt_not (pt_tru (pe_callB callIsi (by rfl) B.isinstance boot_isinstance (pa_cons (pe_ix (ixItem hu) (pn 0) pe_int (fun _ _ => rfl)) (pa_cons (pe_bltn (v := .ty "str") (by rfl) B.str boot_str rfl) pa_nil))))))))) (pss_one (ps_ret pe_bl)) pss_nil)
      (pss_cons (ps_par (i := 1) (j := 2) (by rfl) nd rfl rfl (by decide) rfl rfl (pa_cons (pe_ix (ixItem hu) (pn 0) pe_int (fun _ _ => rfl)) (pa_cons (pe_callB callLen (by rfl) B.len bt_len (pa_cons (pn 0) pa_nil)) pa_nil)) (by rfl))
      (pss_cons (ps_if (pt_cmpR (opIn hu) (pn 1) (li_tup (la_cons li_str (la_cons li_str (la_cons li_str la_nil)))) rfl) (pss_one (ps_ret (pe_cmpR (opEq hu64) (pn 2) pe_int (nomark _)))) pss_nil)
      (pss_cons (ps_if (pt_cmpR (opEq hu64) (pn 1) pe_str (nomark _)) (pss_one (ps_ret (pe_and (pe_cmpR (opEq hu64) (pn 2) pe_int (nomark _)) (pe_one (pe_fn D_law_is_among (hr.mono (by decide)) tk (pa_cons (pe_ix (ixItem hu) (pn 0) pe_int (fun _ _ => rfl)) (pa_cons pe_int (pa_cons pe_int pa_nil)))))))) pss_nil)
      (pss_cons (ps_set (i := 3) nd rfl (Or.inl rfl) (li_tup (la_cons li_str (la_cons li_str (la_cons li_str (la_cons li_str (la_cons li_str (la_cons li_str la_nil))))))))
      (pss_cons (ps_if (PW.pt (pw_or (pt_cmpR (opNotIn hu) (pn 1) (pe_op opAdd (pn 3) (li_tup (la_cons li_str (la_cons li_str la_nil)))) rfl) (pw_or (pt_cmpR opLt (pn 2) pe_int (nomark _)) (pw_or1 (pt_not (pt_tru (pe_fn D_law_is_among (hr.mono (by decide)) tk (pa_cons (pe_ix (ixItem hu) (pn 0) pe_int (fun _ _ => rfl)) (pa_cons pe_int (pa_cons (pe_op opPow pe_int pe_int) pa_nil)))))))))) (pss_one (ps_ret pe_bl)) pss_nil)
      (pss_cons (ps_if (pt_cmpR (opIn hu) (pn 1) (pn 3) rfl) (pss_one (ps_ret (pe_cmpR (opEq hu64) (pn 2) pe_int (nomark _)))) pss_nil)
      (pss_cons (ps_if (PW.pt (pw_or (pt_cmpR (opNe hu64) (pn 2) (pe_op opAdd pe_int (pe_callTy callInt (by rfl) B.int boot_int (pa_cons (pe_cmpR (opEq hu64) (pn 1) pe_str (nomark _)) pa_nil))) (nomark _)) (pw_or (pt_not (pt_tru (pe_fn D_law_is_name (hr.mono (by decide)) tk (pa_cons (pe_ix (ixItem hu) (pn 0) pe_int (fun _ _ => rfl)) pa_nil)))) (pw_or1 (pt_not (pt_tru (pe_callB callIsi (by rfl) B.isinstance boot_isinstance (pa_cons (pe_ix (ixItem hu) (pn 0) pe_int (fun _ _ => rfl)) (pa_cons (pe_bltn (v := .ty "str") (by rfl) B.str boot_str rfl) pa_nil))))))))) (pss_one (ps_ret pe_bl)) pss_nil)
      (pss_cons (ps_set (i := 4) nd rfl (Or.inl rfl) (pe_slice slSlice (li_lst (la_cons li_str (la_cons li_str (la_cons li_str (la_cons li_str la_nil))))) (po_some (pe_op opMul pe_int (pe_callTy callInt (by rfl) B.int boot_int (pa_cons (pe_cmpR (opEq hu64) (pn 1) pe_str (nomark _)) pa_nil)))) po_none))
      (pss_one (ps_ret (pe_and (pe_cmpR (opIn hu) (pe_ix (ixItem hu) (pn 0) pe_int (fun _ _ => rfl)) (pn 4) rfl) (pe_one (pe_or (pe_cmpR (opEq hu64) (pn 2) pe_int (nomark _)) (pe_one (pe_fn D_law_is_among (hr.mono (by decide)) tk (pa_cons (pe_ix (ixItem hu) (pn 0) pe_int (fun _ _ => rfl)) (pa_cons (pe_op opSub pe_int (pe_op opPow pe_int pe_int)) (pa_cons (pe_op opSub (pe_op opPow pe_int pe_int) pe_int) pa_nil))))))))))))))))))), ?_⟩
  clear hu hu64 hc nd tk po hr B D_law_is_among D_law_is_name
  obtain ⟨v, d, rfl, hd, hz, k⟩ := h
  rw [show L2.start _ _ = [some v, none, none, none, none] from rfl]
  have no : isOp d = false → ∀ H', Ext H H' → Q (.bl false) H' := fun e H' x => e ▸ k H' x
  refine sq fun N hN => ?_
  by_cases hT : isT d = true
  rotate_left
  · simp only [tSeq, tIfS, tTest, tOp, tV, tC, tAsg, gName, gSub, tRet, tRetN, tCB, tCons, tNil, tDrop, tNext, tAnd, tOr, tNot, tAndV, tOrV, tNotV, tIf, tTru, tUn, tCallS, WE, tTup, tLst, tSl, tPart, tNoPart, tPar, tChain, tBM, tBM0, tM0, tM1, gTup, gCons, gNil, tInC, gC, gN, tCallK, tCst, tRevL, ok_str, ok_int, ok_bool, ok_tuple, ok_list, ok_dict, sub_str, sub_tup, sub_lst, sub_bool, sub_int, sub_dict, Bool.not_true, Bool.not_false, kisS_none, kisS_bool, kisS_int, kisS_str, kisS_list, kisS_tuple, kisS_dict, kisT_none, kisT_bool, kisT_int, kisT_str, kisT_list, kisT_tuple, kisT_dict, kisL_none, kisL_bool, kisL_int, kisL_str, kisL_list, kisL_tuple, kisL_dict, kisB_none, kisB_bool, kisB_int, kisB_str, kisB_list, kisB_tuple, kisB_dict, kisI_none, kisI_bool, kisI_int, kisI_str, kisI_list, kisI_tuple, kisI_dict, kisIB_none, kisIB_bool, kisIB_int, kisIB_str, kisIB_list, kisIB_tuple, kisIB_dict, kisD_none, kisD_bool, kisD_int, kisD_str, kisD_list, kisD_tuple, kisD_dict, rEqU, rNeU, rAdd_1, rAdd_2, rAdd_3, rAdd_4, rSub_1, rMul_1, rMul_2, rMul_3, rDiv_1, rMod_1, rPow_1, rNeg_1, rLt_1, rLe_1, rLe_2, rGt_1, rGe_1, rIs_1, rIs_2, rIsNot_1, rIsNot_2, rMem_1, rItem_1, rItem_2, rStore_1, rLen_1, rLen_2, rInt_1, rInt_2, rMax_1, rMin_1, rList_1, rTuple_1, rAbs_1, rIsi_1, rSlice_1, rSlice_2, mAppend_1, mExtend_1, mPop_1, mPop_2, mInsert_1, mUpper_1, rInT_1, eqR_rr, eqR_rs, eqR_ri, eqR_rb, eqR_rn, eqR_sr, eqR_ir, eqR_br, eqR_nr, isCol_l, isCol_t, isCol_d, isSeq_l, isSeq_t, iAny, wipe, tYes, List.isEmpty_nil, List.isEmpty_cons, truN_non, truN_bl, truN_int, tyN_non, tyN_bl, tyN_int, tyN_str, keyOf, scal_nn, scal_nb, scal_ni, scal_ns, scal_nr, scal_bn, scal_bb, scal_bs, scal_br, scal_in, scal_ii, scal_is, scal_ir, scal_sn, scal_sb, scal_si, scal_ss, scal_sr, scal_rn, scal_rb, scal_ri, scal_rs, scal_rr, decide_true, decide_false, List.map_cons, List.map_nil, List.set_cons_zero, List.set_cons_succ, List.getElem?_cons_zero, List.getElem?_cons_succ, List.getElem?_nil, exists_eq_left, exists_eq_left', V.bl.injEq, V.int.injEq, V.str.injEq, V.ref.injEq, if_true, if_false, ite_true, ite_false, Bool.false_eq_true, eq_self, true_and, and_true, decide_eq_true_eq, tyN_dr hd, not_isT hT]
    exact no (by cases d <;> first | exact absurd rfl hT | rfl) H (Ext.refl H)
  obtain ⟨ds, rfl⟩ := of_isT hT
  have hz := hz ds rfl
  cases hd with
  | @tup a xs _ e A =>
  have hl := A.length
  simp only [tSeq, tIfS, tTest, tOp, tV, tC, tAsg, gName, gSub, tRet, tRetN, tCB, tCons, tNil, tDrop, tNext, tAnd, tOr, tNot, tAndV, tOrV, tNotV, tIf, tTru, tUn, tCallS, WE, tTup, tLst, tSl, tPart, tNoPart, tPar, tChain, tBM, tBM0, tM0, tM1, gTup, gCons, gNil, tInC, gC, gN, tCallK, tCst, tRevL, ok_str, ok_int, ok_bool, ok_tuple, ok_list, ok_dict, sub_str, sub_tup, sub_lst, sub_bool, sub_int, sub_dict, Bool.not_true, Bool.not_false, kisS_none, kisS_bool, kisS_int, kisS_str, kisS_list, kisS_tuple, kisS_dict, kisT_none, kisT_bool, kisT_int, kisT_str, kisT_list, kisT_tuple, kisT_dict, kisL_none, kisL_bool, kisL_int, kisL_str, kisL_list, kisL_tuple, kisL_dict, kisB_none, kisB_bool, kisB_int, kisB_str, kisB_list, kisB_tuple, kisB_dict, kisI_none, kisI_bool, kisI_int, kisI_str, kisI_list, kisI_tuple, kisI_dict, kisIB_none, kisIB_bool, kisIB_int, kisIB_str, kisIB_list, kisIB_tuple, kisIB_dict, kisD_none, kisD_bool, kisD_int, kisD_str, kisD_list, kisD_tuple, kisD_dict, rEqU, rNeU, rAdd_1, rAdd_2, rAdd_3, rAdd_4, rSub_1, rMul_1, rMul_2, rMul_3, rDiv_1, rMod_1, rPow_1, rNeg_1, rLt_1, rLe_1, rLe_2, rGt_1, rGe_1, rIs_1, rIs_2, rIsNot_1, rIsNot_2, rMem_1, rItem_1, rItem_2, rStore_1, rLen_1, rLen_2, rInt_1, rInt_2, rMax_1, rMin_1, rList_1, rTuple_1, rAbs_1, rIsi_1, rSlice_1, rSlice_2, mAppend_1, mExtend_1, mPop_1, mPop_2, mInsert_1, mUpper_1, rInT_1, eqR_rr, eqR_rs, eqR_ri, eqR_rb, eqR_rn, eqR_sr, eqR_ir, eqR_br, eqR_nr, isCol_l, isCol_t, isCol_d, isSeq_l, isSeq_t, iAny, wipe, tYes, List.isEmpty_nil, List.isEmpty_cons, truN_non, truN_bl, truN_int, tyN_non, tyN_bl, tyN_int, tyN_str, keyOf, scal_nn, scal_nb, scal_ni, scal_ns, scal_nr, scal_bn, scal_bb, scal_bs, scal_br, scal_in, scal_ii, scal_is, scal_ir, scal_sn, scal_sb, scal_si, scal_ss, scal_sr, scal_rn, scal_rb, scal_ri, scal_rs, scal_rr, decide_true, decide_false, List.map_cons, List.map_nil, List.set_cons_zero, List.set_cons_succ, List.getElem?_cons_zero, List.getElem?_cons_succ, List.getElem?_nil, exists_eq_left, exists_eq_left', V.bl.injEq, V.int.injEq, V.str.injEq, V.ref.injEq, if_true, if_false, ite_true, ite_false, Bool.false_eq_true, eq_self, true_and, and_true, decide_eq_true_eq, tyN_tup e, e]
  refine ⟨by show 0 ≤ sizeLine; decide, fun p hp => ?_⟩
  have x1 : Ext H (upd H p (.tup [])) := Ext.new hp
  have ep : rdo (upd H p (.tup [])) p = some (.tup []) := rdo_of upd_same (fun _ _ z => nomatch z)
  generalize upd H p (.tup []) = H1 at x1 ep ⊢
  replace e := rdo_ext e x1
  replace A := DrA.ext x1 A
  replace no : isOp (.tuple ds) = false → ∀ H', Ext H1 H' → Q (.bl false) H' := fun z H' y => no z H' (x1.trans y)
  replace k : ∀ H', Ext H1 H' → Q (.bl (isOp (.tuple ds))) H' := fun H' y => k H' (x1.trans y)
  clear hp x1
  simp only [tSeq, tIfS, tTest, tOp, tV, tC, tAsg, gName, gSub, tRet, tRetN, tCB, tCons, tNil, tDrop, tNext, tAnd, tOr, tNot, tAndV, tOrV, tNotV, tIf, tTru, tUn, tCallS, WE, tTup, tLst, tSl, tPart, tNoPart, tPar, tChain, tBM, tBM0, tM0, tM1, gTup, gCons, gNil, tInC, gC, gN, tCallK, tCst, tRevL, ok_str, ok_int, ok_bool, ok_tuple, ok_list, ok_dict, sub_str, sub_tup, sub_lst, sub_bool, sub_int, sub_dict, Bool.not_true, Bool.not_false, kisS_none, kisS_bool, kisS_int, kisS_str, kisS_list, kisS_tuple, kisS_dict, kisT_none, kisT_bool, kisT_int, kisT_str, kisT_list, kisT_tuple, kisT_dict, kisL_none, kisL_bool, kisL_int, kisL_str, kisL_list, kisL_tuple, kisL_dict, kisB_none, kisB_bool, kisB_int, kisB_str, kisB_list, kisB_tuple, kisB_dict, kisI_none, kisI_bool, kisI_int, kisI_str, kisI_list, kisI_tuple, kisI_dict, kisIB_none, kisIB_bool, kisIB_int, kisIB_str, kisIB_list, kisIB_tuple, kisIB_dict, kisD_none, kisD_bool, kisD_int, kisD_str, kisD_list, kisD_tuple, kisD_dict, rEqU, rNeU, rAdd_1, rAdd_2, rAdd_3, rAdd_4, rSub_1, rMul_1, rMul_2, rMul_3, rDiv_1, rMod_1, rPow_1, rNeg_1, rLt_1, rLe_1, rLe_2, rGt_1, rGe_1, rIs_1, rIs_2, rIsNot_1, rIsNot_2, rMem_1, rItem_1, rItem_2, rStore_1, rLen_1, rLen_2, rInt_1, rInt_2, rMax_1, rMin_1, rList_1, rTuple_1, rAbs_1, rIsi_1, rSlice_1, rSlice_2, mAppend_1, mExtend_1, mPop_1, mPop_2, mInsert_1, mUpper_1, rInT_1, eqR_rr, eqR_rs, eqR_ri, eqR_rb, eqR_rn, eqR_sr, eqR_ir, eqR_br, eqR_nr, isCol_l, isCol_t, isCol_d, isSeq_l, isSeq_t, iAny, wipe, tYes, List.isEmpty_nil, List.isEmpty_cons, truN_non, truN_bl, truN_int, tyN_non, tyN_bl, tyN_int, tyN_str, keyOf, scal_nn, scal_nb, scal_ni, scal_ns, scal_nr, scal_bn, scal_bb, scal_bs, scal_br, scal_in, scal_ii, scal_is, scal_ir, scal_sn, scal_sb, scal_si, scal_ss, scal_sr, scal_rn, scal_rb, scal_ri, scal_rs, scal_rr, decide_true, decide_false, List.map_cons, List.map_nil, List.set_cons_zero, List.set_cons_succ, List.getElem?_cons_zero, List.getElem?_cons_succ, List.getElem?_nil, exists_eq_left, exists_eq_left', V.bl.injEq, V.int.injEq, V.str.injEq, V.ref.injEq, if_true, if_false, ite_true, ite_false, Bool.false_eq_true, eq_self, true_and, and_true, decide_eq_true_eq, e, ep]
  cases A with
  | nil =>
    simp only [tSeq, tIfS, tTest, tOp, tV, tC, tAsg, gName, gSub, tRet, tRetN, tCB, tCons, tNil, tDrop, tNext, tAnd, tOr, tNot, tAndV, tOrV, tNotV, tIf, tTru, tUn, tCallS, WE, tTup, tLst, tSl, tPart, tNoPart, tPar, tChain, tBM, tBM0, tM0, tM1, gTup, gCons, gNil, tInC, gC, gN, tCallK, tCst, tRevL, ok_str, ok_int, ok_bool, ok_tuple, ok_list, ok_dict, sub_str, sub_tup, sub_lst, sub_bool, sub_int, sub_dict, Bool.not_true, Bool.not_false, kisS_none, kisS_bool, kisS_int, kisS_str, kisS_list, kisS_tuple, kisS_dict, kisT_none, kisT_bool, kisT_int, kisT_str, kisT_list, kisT_tuple, kisT_dict, kisL_none, kisL_bool, kisL_int, kisL_str, kisL_list, kisL_tuple, kisL_dict, kisB_none, kisB_bool, kisB_int, kisB_str, kisB_list, kisB_tuple, kisB_dict, kisI_none, kisI_bool, kisI_int, kisI_str, kisI_list, kisI_tuple, kisI_dict, kisIB_none, kisIB_bool, kisIB_int, kisIB_str, kisIB_list, kisIB_tuple, kisIB_dict, kisD_none, kisD_bool, kisD_int, kisD_str, kisD_list, kisD_tuple, kisD_dict, rEqU, rNeU, rAdd_1, rAdd_2, rAdd_3, rAdd_4, rSub_1, rMul_1, rMul_2, rMul_3, rDiv_1, rMod_1, rPow_1, rNeg_1, rLt_1, rLe_1, rLe_2, rGt_1, rGe_1, rIs_1, rIs_2, rIsNot_1, rIsNot_2, rMem_1, rItem_1, rItem_2, rStore_1, rLen_1, rLen_2, rInt_1, rInt_2, rMax_1, rMin_1, rList_1, rTuple_1, rAbs_1, rIsi_1, rSlice_1, rSlice_2, mAppend_1, mExtend_1, mPop_1, mPop_2, mInsert_1, mUpper_1, rInT_1, eqR_rr, eqR_rs, eqR_ri, eqR_rb, eqR_rn, eqR_sr, eqR_ir, eqR_br, eqR_nr, isCol_l, isCol_t, isCol_d, isSeq_l, isSeq_t, iAny, wipe, tYes, List.isEmpty_nil, List.isEmpty_cons, truN_non, truN_bl, truN_int, tyN_non, tyN_bl, tyN_int, tyN_str, keyOf, scal_nn, scal_nb, scal_ni, scal_ns, scal_nr, scal_bn, scal_bb, scal_bs, scal_br, scal_in, scal_ii, scal_is, scal_ir, scal_sn, scal_sb, scal_si, scal_ss, scal_sr, scal_rn, scal_rb, scal_ri, scal_rs, scal_rr, decide_true, decide_false, List.map_cons, List.map_nil, List.set_cons_zero, List.set_cons_succ, List.getElem?_cons_zero, List.getElem?_cons_succ, List.getElem?_nil, exists_eq_left, exists_eq_left', V.bl.injEq, V.int.injEq, V.str.injEq, V.ref.injEq, if_true, if_false, ite_true, ite_false, Bool.false_eq_true, eq_self, true_and, and_true, decide_eq_true_eq]
    exact no rfl _ (Ext.refl _)
  | @cons v0 xs d0 r D0 A =>
  have a0 : atI (v0 :: xs) 0 = some v0 := atI_nat (j := 0) rfl
  simp only [tSeq, tIfS, tTest, tOp, tV, tC, tAsg, gName, gSub, tRet, tRetN, tCB, tCons, tNil, tDrop, tNext, tAnd, tOr, tNot, tAndV, tOrV, tNotV, tIf, tTru, tUn, tCallS, WE, tTup, tLst, tSl, tPart, tNoPart, tPar, tChain, tBM, tBM0, tM0, tM1, gTup, gCons, gNil, tInC, gC, gN, tCallK, tCst, tRevL, ok_str, ok_int, ok_bool, ok_tuple, ok_list, ok_dict, sub_str, sub_tup, sub_lst, sub_bool, sub_int, sub_dict, Bool.not_true, Bool.not_false, kisS_none, kisS_bool, kisS_int, kisS_str, kisS_list, kisS_tuple, kisS_dict, kisT_none, kisT_bool, kisT_int, kisT_str, kisT_list, kisT_tuple, kisT_dict, kisL_none, kisL_bool, kisL_int, kisL_str, kisL_list, kisL_tuple, kisL_dict, kisB_none, kisB_bool, kisB_int, kisB_str, kisB_list, kisB_tuple, kisB_dict, kisI_none, kisI_bool, kisI_int, kisI_str, kisI_list, kisI_tuple, kisI_dict, kisIB_none, kisIB_bool, kisIB_int, kisIB_str, kisIB_list, kisIB_tuple, kisIB_dict, kisD_none, kisD_bool, kisD_int, kisD_str, kisD_list, kisD_tuple, kisD_dict, rEqU, rNeU, rAdd_1, rAdd_2, rAdd_3, rAdd_4, rSub_1, rMul_1, rMul_2, rMul_3, rDiv_1, rMod_1, rPow_1, rNeg_1, rLt_1, rLe_1, rLe_2, rGt_1, rGe_1, rIs_1, rIs_2, rIsNot_1, rIsNot_2, rMem_1, rItem_1, rItem_2, rStore_1, rLen_1, rLen_2, rInt_1, rInt_2, rMax_1, rMin_1, rList_1, rTuple_1, rAbs_1, rIsi_1, rSlice_1, rSlice_2, mAppend_1, mExtend_1, mPop_1, mPop_2, mInsert_1, mUpper_1, rInT_1, eqR_rr, eqR_rs, eqR_ri, eqR_rb, eqR_rn, eqR_sr, eqR_ir, eqR_br, eqR_nr, isCol_l, isCol_t, isCol_d, isSeq_l, isSeq_t, iAny, wipe, tYes, List.isEmpty_nil, List.isEmpty_cons, truN_non, truN_bl, truN_int, tyN_non, tyN_bl, tyN_int, tyN_str, keyOf, scal_nn, scal_nb, scal_ni, scal_ns, scal_nr, scal_bn, scal_bb, scal_bs, scal_br, scal_in, scal_ii, scal_is, scal_ir, scal_sn, scal_sb, scal_si, scal_ss, scal_sr, scal_rn, scal_rb, scal_ri, scal_rs, scal_rr, decide_true, decide_false, List.map_cons, List.map_nil, List.set_cons_zero, List.set_cons_succ, List.getElem?_cons_zero, List.getElem?_cons_succ, List.getElem?_nil, exists_eq_left, exists_eq_left', V.bl.injEq, V.int.injEq, V.str.injEq, V.ref.injEq, if_true, if_false, ite_true, ite_false, Bool.false_eq_true, eq_self, true_and, and_true, decide_eq_true_eq, a0, tyN_dr D0]
  by_cases hS : isS d0 = true
  rotate_left
  · rw [not_isT' hS]
    simp only [tSeq, tIfS, tTest, tOp, tV, tC, tAsg, gName, gSub, tRet, tRetN, tCB, tCons, tNil, tDrop, tNext, tAnd, tOr, tNot, tAndV, tOrV, tNotV, tIf, tTru, tUn, tCallS, WE, tTup, tLst, tSl, tPart, tNoPart, tPar, tChain, tBM, tBM0, tM0, tM1, gTup, gCons, gNil, tInC, gC, gN, tCallK, tCst, tRevL, ok_str, ok_int, ok_bool, ok_tuple, ok_list, ok_dict, sub_str, sub_tup, sub_lst, sub_bool, sub_int, sub_dict, Bool.not_true, Bool.not_false, kisS_none, kisS_bool, kisS_int, kisS_str, kisS_list, kisS_tuple, kisS_dict, kisT_none, kisT_bool, kisT_int, kisT_str, kisT_list, kisT_tuple, kisT_dict, kisL_none, kisL_bool, kisL_int, kisL_str, kisL_list, kisL_tuple, kisL_dict, kisB_none, kisB_bool, kisB_int, kisB_str, kisB_list, kisB_tuple, kisB_dict, kisI_none, kisI_bool, kisI_int, kisI_str, kisI_list, kisI_tuple, kisI_dict, kisIB_none, kisIB_bool, kisIB_int, kisIB_str, kisIB_list, kisIB_tuple, kisIB_dict, kisD_none, kisD_bool, kisD_int, kisD_str, kisD_list, kisD_tuple, kisD_dict, rEqU, rNeU, rAdd_1, rAdd_2, rAdd_3, rAdd_4, rSub_1, rMul_1, rMul_2, rMul_3, rDiv_1, rMod_1, rPow_1, rNeg_1, rLt_1, rLe_1, rLe_2, rGt_1, rGe_1, rIs_1, rIs_2, rIsNot_1, rIsNot_2, rMem_1, rItem_1, rItem_2, rStore_1, rLen_1, rLen_2, rInt_1, rInt_2, rMax_1, rMin_1, rList_1, rTuple_1, rAbs_1, rIsi_1, rSlice_1, rSlice_2, mAppend_1, mExtend_1, mPop_1, mPop_2, mInsert_1, mUpper_1, rInT_1, eqR_rr, eqR_rs, eqR_ri, eqR_rb, eqR_rn, eqR_sr, eqR_ir, eqR_br, eqR_nr, isCol_l, isCol_t, isCol_d, isSeq_l, isSeq_t, iAny, wipe, tYes, List.isEmpty_nil, List.isEmpty_cons, truN_non, truN_bl, truN_int, tyN_non, tyN_bl, tyN_int, tyN_str, keyOf, scal_nn, scal_nb, scal_ni, scal_ns, scal_nr, scal_bn, scal_bb, scal_bs, scal_br, scal_in, scal_ii, scal_is, scal_ir, scal_sn, scal_sb, scal_si, scal_ss, scal_sr, scal_rn, scal_rb, scal_ri, scal_rs, scal_rr, decide_true, decide_false, List.map_cons, List.map_nil, List.set_cons_zero, List.set_cons_succ, List.getElem?_cons_zero, List.getElem?_cons_succ, List.getElem?_nil, exists_eq_left, exists_eq_left', V.bl.injEq, V.int.injEq, V.str.injEq, V.ref.injEq, if_true, if_false, ite_true, ite_false, Bool.false_eq_true, eq_self, true_and, and_true, decide_eq_true_eq]
    exact no (by cases d0 <;> first | exact absurd rfl hS | rfl) _ (Ext.refl _)
  obtain ⟨w, rfl⟩ := of_isS hS
  obtain rfl := dr_str D0
  simp only [tSeq, tIfS, tTest, tOp, tV, tC, tAsg, gName, gSub, tRet, tRetN, tCB, tCons, tNil, tDrop, tNext, tAnd, tOr, tNot, tAndV, tOrV, tNotV, tIf, tTru, tUn, tCallS, WE, tTup, tLst, tSl, tPart, tNoPart, tPar, tChain, tBM, tBM0, tM0, tM1, gTup, gCons, gNil, tInC, gC, gN, tCallK, tCst, tRevL, ok_str, ok_int, ok_bool, ok_tuple, ok_list, ok_dict, sub_str, sub_tup, sub_lst, sub_bool, sub_int, sub_dict, Bool.not_true, Bool.not_false, kisS_none, kisS_bool, kisS_int, kisS_str, kisS_list, kisS_tuple, kisS_dict, kisT_none, kisT_bool, kisT_int, kisT_str, kisT_list, kisT_tuple, kisT_dict, kisL_none, kisL_bool, kisL_int, kisL_str, kisL_list, kisL_tuple, kisL_dict, kisB_none, kisB_bool, kisB_int, kisB_str, kisB_list, kisB_tuple, kisB_dict, kisI_none, kisI_bool, kisI_int, kisI_str, kisI_list, kisI_tuple, kisI_dict, kisIB_none, kisIB_bool, kisIB_int, kisIB_str, kisIB_list, kisIB_tuple, kisIB_dict, kisD_none, kisD_bool, kisD_int, kisD_str, kisD_list, kisD_tuple, kisD_dict, rEqU, rNeU, rAdd_1, rAdd_2, rAdd_3, rAdd_4, rSub_1, rMul_1, rMul_2, rMul_3, rDiv_1, rMod_1, rPow_1, rNeg_1, rLt_1, rLe_1, rLe_2, rGt_1, rGe_1, rIs_1, rIs_2, rIsNot_1, rIsNot_2, rMem_1, rItem_1, rItem_2, rStore_1, rLen_1, rLen_2, rInt_1, rInt_2, rMax_1, rMin_1, rList_1, rTuple_1, rAbs_1, rIsi_1, rSlice_1, rSlice_2, mAppend_1, mExtend_1, mPop_1, mPop_2, mInsert_1, mUpper_1, rInT_1, eqR_rr, eqR_rs, eqR_ri, eqR_rb, eqR_rn, eqR_sr, eqR_ir, eqR_br, eqR_nr, isCol_l, isCol_t, isCol_d, isSeq_l, isSeq_t, iAny, wipe, tYes, List.isEmpty_nil, List.isEmpty_cons, truN_non, truN_bl, truN_int, tyN_non, tyN_bl, tyN_int, tyN_str, keyOf, scal_nn, scal_nb, scal_ni, scal_ns, scal_nr, scal_bn, scal_bb, scal_bs, scal_br, scal_in, scal_ii, scal_is, scal_ir, scal_sn, scal_sb, scal_si, scal_ss, scal_sr, scal_rn, scal_rb, scal_ri, scal_rs, scal_rr, decide_true, decide_false, List.map_cons, List.map_nil, List.set_cons_zero, List.set_cons_succ, List.getElem?_cons_zero, List.getElem?_cons_succ, List.getElem?_nil, exists_eq_left, exists_eq_left', V.bl.injEq, V.int.injEq, V.str.injEq, V.ref.injEq, if_true, if_false, ite_true, ite_false, Bool.false_eq_true, eq_self, true_and, and_true, decide_eq_true_eq]
  have hlen : ((V.str w :: xs).length : Int) = (r.length : Int) + 1 := by
    simp only [List.length_cons] at hl ⊢
    omega
  refine hN _ _ ?_; clear hN N
  refine sq fun N hN => ?_
  simp only [tSeq, tIfS, tTest, tOp, tV, tC, tAsg, gName, gSub, tRet, tRetN, tCB, tCons, tNil, tDrop, tNext, tAnd, tOr, tNot, tAndV, tOrV, tNotV, tIf, tTru, tUn, tCallS, WE, tTup, tLst, tSl, tPart, tNoPart, tPar, tChain, tBM, tBM0, tM0, tM1, gTup, gCons, gNil, tInC, gC, gN, tCallK, tCst, tRevL, ok_str, ok_int, ok_bool, ok_tuple, ok_list, ok_dict, sub_str, sub_tup, sub_lst, sub_bool, sub_int, sub_dict, Bool.not_true, Bool.not_false, kisS_none, kisS_bool, kisS_int, kisS_str, kisS_list, kisS_tuple, kisS_dict, kisT_none, kisT_bool, kisT_int, kisT_str, kisT_list, kisT_tuple, kisT_dict, kisL_none, kisL_bool, kisL_int, kisL_str, kisL_list, kisL_tuple, kisL_dict, kisB_none, kisB_bool, kisB_int, kisB_str, kisB_list, kisB_tuple, kisB_dict, kisI_none, kisI_bool, kisI_int, kisI_str, kisI_list, kisI_tuple, kisI_dict, kisIB_none, kisIB_bool, kisIB_int, kisIB_str, kisIB_list, kisIB_tuple, kisIB_dict, kisD_none, kisD_bool, kisD_int, kisD_str, kisD_list, kisD_tuple, kisD_dict, rEqU, rNeU, rAdd_1, rAdd_2, rAdd_3, rAdd_4, rSub_1, rMul_1, rMul_2, rMul_3, rDiv_1, rMod_1, rPow_1, rNeg_1, rLt_1, rLe_1, rLe_2, rGt_1, rGe_1, rIs_1, rIs_2, rIsNot_1, rIsNot_2, rMem_1, rItem_1, rItem_2, rStore_1, rLen_1, rLen_2, rInt_1, rInt_2, rMax_1, rMin_1, rList_1, rTuple_1, rAbs_1, rIsi_1, rSlice_1, rSlice_2, mAppend_1, mExtend_1, mPop_1, mPop_2, mInsert_1, mUpper_1, rInT_1, eqR_rr, eqR_rs, eqR_ri, eqR_rb, eqR_rn, eqR_sr, eqR_ir, eqR_br, eqR_nr, isCol_l, isCol_t, isCol_d, isSeq_l, isSeq_t, iAny, wipe, tYes, List.isEmpty_nil, List.isEmpty_cons, truN_non, truN_bl, truN_int, tyN_non, tyN_bl, tyN_int, tyN_str, keyOf, scal_nn, scal_nb, scal_ni, scal_ns, scal_nr, scal_bn, scal_bb, scal_bs, scal_br, scal_in, scal_ii, scal_is, scal_ir, scal_sn, scal_sb, scal_si, scal_ss, scal_sr, scal_rn, scal_rb, scal_ri, scal_rs, scal_rr, decide_true, decide_false, List.map_cons, List.map_nil, List.set_cons_zero, List.set_cons_succ, List.getElem?_cons_zero, List.getElem?_cons_succ, List.getElem?_nil, exists_eq_left, exists_eq_left', V.bl.injEq, V.int.injEq, V.str.injEq, V.ref.injEq, if_true, if_false, ite_true, ite_false, Bool.false_eq_true, eq_self, true_and, and_true, decide_eq_true_eq, e, a0, hlen]
  refine ⟨_, _, rfl, ?_⟩
  refine hN _ _ ?_; clear hN N
  refine sq fun N hN => ?_
  suffices go : ∀ H', Ext H1 H' → inWs aloneWs w = false → N [some (.ref a), some (.str w), some (.int (r.length + 1)), none, none] H' by
    simp only [tSeq, tIfS, tTest, tOp, tV, tC, tAsg, gName, gSub, tRet, tRetN, tCB, tCons, tNil, tDrop, tNext, tAnd, tOr, tNot, tAndV, tOrV, tNotV, tIf, tTru, tUn, tCallS, WE, tTup, tLst, tSl, tPart, tNoPart, tPar, tChain, tBM, tBM0, tM0, tM1, gTup, gCons, gNil, tInC, gC, gN, tCallK, tCst, tRevL, ok_str, ok_int, ok_bool, ok_tuple, ok_list, ok_dict, sub_str, sub_tup, sub_lst, sub_bool, sub_int, sub_dict, Bool.not_true, Bool.not_false, kisS_none, kisS_bool, kisS_int, kisS_str, kisS_list, kisS_tuple, kisS_dict, kisT_none, kisT_bool, kisT_int, kisT_str, kisT_list, kisT_tuple, kisT_dict, kisL_none, kisL_bool, kisL_int, kisL_str, kisL_list, kisL_tuple, kisL_dict, kisB_none, kisB_bool, kisB_int, kisB_str, kisB_list, kisB_tuple, kisB_dict, kisI_none, kisI_bool, kisI_int, kisI_str, kisI_list, kisI_tuple, kisI_dict, kisIB_none, kisIB_bool, kisIB_int, kisIB_str, kisIB_list, kisIB_tuple, kisIB_dict, kisD_none, kisD_bool, kisD_int, kisD_str, kisD_list, kisD_tuple, kisD_dict, rEqU, rNeU, rAdd_1, rAdd_2, rAdd_3, rAdd_4, rSub_1, rMul_1, rMul_2, rMul_3, rDiv_1, rMod_1, rPow_1, rNeg_1, rLt_1, rLe_1, rLe_2, rGt_1, rGe_1, rIs_1, rIs_2, rIsNot_1, rIsNot_2, rMem_1, rItem_1, rItem_2, rStore_1, rLen_1, rLen_2, rInt_1, rInt_2, rMax_1, rMin_1, rList_1, rTuple_1, rAbs_1, rIsi_1, rSlice_1, rSlice_2, mAppend_1, mExtend_1, mPop_1, mPop_2, mInsert_1, mUpper_1, rInT_1, eqR_rr, eqR_rs, eqR_ri, eqR_rb, eqR_rn, eqR_sr, eqR_ir, eqR_br, eqR_nr, isCol_l, isCol_t, isCol_d, isSeq_l, isSeq_t, iAny, wipe, tYes, List.isEmpty_nil, List.isEmpty_cons, truN_non, truN_bl, truN_int, tyN_non, tyN_bl, tyN_int, tyN_str, keyOf, scal_nn, scal_nb, scal_ni, scal_ns, scal_nr, scal_bn, scal_bb, scal_bs, scal_br, scal_in, scal_ii, scal_is, scal_ir, scal_sn, scal_sb, scal_si, scal_ss, scal_sr, scal_rn, scal_rb, scal_ri, scal_rs, scal_rr, decide_true, decide_false, List.map_cons, List.map_nil, List.set_cons_zero, List.set_cons_succ, List.getElem?_cons_zero, List.getElem?_cons_succ, List.getElem?_nil, exists_eq_left, exists_eq_left', V.bl.injEq, V.int.injEq, V.str.injEq, V.ref.injEq, if_true, if_false, ite_true, ite_false, Bool.false_eq_true, eq_self, true_and, and_true, decide_eq_true_eq]
    intro v9 H9 e9 L9
    cases L9 with
    | @tup a9 xs9 _ r9 A9 =>
    obtain rfl : xs9 = aloneWs.map V.str := DrA.strs (ws := aloneWs) A9
    have r9 : rdo H9 a9 = some (.tup (aloneWs.map V.str)) := rdo_of (tup_new r9) (fun _ _ z => nomatch z)
    simp only [tSeq, tIfS, tTest, tOp, tV, tC, tAsg, gName, gSub, tRet, tRetN, tCB, tCons, tNil, tDrop, tNext, tAnd, tOr, tNot, tAndV, tOrV, tNotV, tIf, tTru, tUn, tCallS, WE, tTup, tLst, tSl, tPart, tNoPart, tPar, tChain, tBM, tBM0, tM0, tM1, gTup, gCons, gNil, tInC, gC, gN, tCallK, tCst, tRevL, ok_str, ok_int, ok_bool, ok_tuple, ok_list, ok_dict, sub_str, sub_tup, sub_lst, sub_bool, sub_int, sub_dict, Bool.not_true, Bool.not_false, kisS_none, kisS_bool, kisS_int, kisS_str, kisS_list, kisS_tuple, kisS_dict, kisT_none, kisT_bool, kisT_int, kisT_str, kisT_list, kisT_tuple, kisT_dict, kisL_none, kisL_bool, kisL_int, kisL_str, kisL_list, kisL_tuple, kisL_dict, kisB_none, kisB_bool, kisB_int, kisB_str, kisB_list, kisB_tuple, kisB_dict, kisI_none, kisI_bool, kisI_int, kisI_str, kisI_list, kisI_tuple, kisI_dict, kisIB_none, kisIB_bool, kisIB_int, kisIB_str, kisIB_list, kisIB_tuple, kisIB_dict, kisD_none, kisD_bool, kisD_int, kisD_str, kisD_list, kisD_tuple, kisD_dict, rEqU, rNeU, rAdd_1, rAdd_2, rAdd_3, rAdd_4, rSub_1, rMul_1, rMul_2, rMul_3, rDiv_1, rMod_1, rPow_1, rNeg_1, rLt_1, rLe_1, rLe_2, rGt_1, rGe_1, rIs_1, rIs_2, rIsNot_1, rIsNot_2, rMem_1, rItem_1, rItem_2, rStore_1, rLen_1, rLen_2, rInt_1, rInt_2, rMax_1, rMin_1, rList_1, rTuple_1, rAbs_1, rIsi_1, rSlice_1, rSlice_2, mAppend_1, mExtend_1, mPop_1, mPop_2, mInsert_1, mUpper_1, rInT_1, eqR_rr, eqR_rs, eqR_ri, eqR_rb, eqR_rn, eqR_sr, eqR_ir, eqR_br, eqR_nr, isCol_l, isCol_t, isCol_d, isSeq_l, isSeq_t, iAny, wipe, tYes, List.isEmpty_nil, List.isEmpty_cons, truN_non, truN_bl, truN_int, tyN_non, tyN_bl, tyN_int, tyN_str, keyOf, scal_nn, scal_nb, scal_ni, scal_ns, scal_nr, scal_bn, scal_bb, scal_bs, scal_br, scal_in, scal_ii, scal_is, scal_ir, scal_sn, scal_sb, scal_si, scal_ss, scal_sr, scal_rn, scal_rb, scal_ri, scal_rs, scal_rr, decide_true, decide_false, List.map_cons, List.map_nil, List.set_cons_zero, List.set_cons_succ, List.getElem?_cons_zero, List.getElem?_cons_succ, List.getElem?_nil, exists_eq_left, exists_eq_left', V.bl.injEq, V.int.injEq, V.str.injEq, V.ref.injEq, if_true, if_false, ite_true, ite_false, Bool.false_eq_true, eq_self, true_and, and_true, decide_eq_true_eq, r9]
    refine ⟨⟨rfl, flat_str _⟩, ?_⟩
    rw [inV_str]
    refine ite2 (fun hw => ?_) (fun hw => go _ e9 (not_isT' hw))
    have hw : inWs aloneWs w = true := hw
    simp only [isOp, hw, if_true] at k
    rw [show decide ((r.length : Int) + 1 = 1) = decide (r.length = 0) from decide_eq_decide.mpr (by omega)]
    exact k _ e9
  intro H2 x2 hw1
  replace e := rdo_ext e x2
  replace A := DrA.ext x2 A
  replace no : isOp (.tuple (.str w :: r)) = false → ∀ H', Ext H2 H' → Q (.bl false) H' := fun z H' y => no z H' (x2.trans y)
  replace k : ∀ H', Ext H2 H' → Q (.bl (isOp (.tuple (.str w :: r)))) H' := fun H' y => k H' (x2.trans y)
  clear x2 ep
  refine hN _ _ ?_; clear hN N
  refine sq fun N hN => ?_
  suffices go : ¬ w = "horizon" → N [some (.ref a), some (.str w), some (.int (r.length + 1)), none, none] H2 by
    simp only [tSeq, tIfS, tTest, tOp, tV, tC, tAsg, gName, gSub, tRet, tRetN, tCB, tCons, tNil, tDrop, tNext, tAnd, tOr, tNot, tAndV, tOrV, tNotV, tIf, tTru, tUn, tCallS, WE, tTup, tLst, tSl, tPart, tNoPart, tPar, tChain, tBM, tBM0, tM0, tM1, gTup, gCons, gNil, tInC, gC, gN, tCallK, tCst, tRevL, ok_str, ok_int, ok_bool, ok_tuple, ok_list, ok_dict, sub_str, sub_tup, sub_lst, sub_bool, sub_int, sub_dict, Bool.not_true, Bool.not_false, kisS_none, kisS_bool, kisS_int, kisS_str, kisS_list, kisS_tuple, kisS_dict, kisT_none, kisT_bool, kisT_int, kisT_str, kisT_list, kisT_tuple, kisT_dict, kisL_none, kisL_bool, kisL_int, kisL_str, kisL_list, kisL_tuple, kisL_dict, kisB_none, kisB_bool, kisB_int, kisB_str, kisB_list, kisB_tuple, kisB_dict, kisI_none, kisI_bool, kisI_int, kisI_str, kisI_list, kisI_tuple, kisI_dict, kisIB_none, kisIB_bool, kisIB_int, kisIB_str, kisIB_list, kisIB_tuple, kisIB_dict, kisD_none, kisD_bool, kisD_int, kisD_str, kisD_list, kisD_tuple, kisD_dict, rEqU, rNeU, rAdd_1, rAdd_2, rAdd_3, rAdd_4, rSub_1, rMul_1, rMul_2, rMul_3, rDiv_1, rMod_1, rPow_1, rNeg_1, rLt_1, rLe_1, rLe_2, rGt_1, rGe_1, rIs_1, rIs_2, rIsNot_1, rIsNot_2, rMem_1, rItem_1, rItem_2, rStore_1, rLen_1, rLen_2, rInt_1, rInt_2, rMax_1, rMin_1, rList_1, rTuple_1, rAbs_1, rIsi_1, rSlice_1, rSlice_2, mAppend_1, mExtend_1, mPop_1, mPop_2, mInsert_1, mUpper_1, rInT_1, eqR_rr, eqR_rs, eqR_ri, eqR_rb, eqR_rn, eqR_sr, eqR_ir, eqR_br, eqR_nr, isCol_l, isCol_t, isCol_d, isSeq_l, isSeq_t, iAny, wipe, tYes, List.isEmpty_nil, List.isEmpty_cons, truN_non, truN_bl, truN_int, tyN_non, tyN_bl, tyN_int, tyN_str, keyOf, scal_nn, scal_nb, scal_ni, scal_ns, scal_nr, scal_bn, scal_bb, scal_bs, scal_br, scal_in, scal_ii, scal_is, scal_ir, scal_sn, scal_sb, scal_si, scal_ss, scal_sr, scal_rn, scal_rb, scal_ri, scal_rs, scal_rr, decide_true, decide_false, List.map_cons, List.map_nil, List.set_cons_zero, List.set_cons_succ, List.getElem?_cons_zero, List.getElem?_cons_succ, List.getElem?_nil, exists_eq_left, exists_eq_left', V.bl.injEq, V.int.injEq, V.str.injEq, V.ref.injEq, if_true, if_false, ite_true, ite_false, Bool.false_eq_true, eq_self, true_and, and_true, decide_eq_true_eq]
    refine ite2 (fun hw => ite2 (fun h2 => ?_) (fun h2 => no ?_ _ (Ext.refl _))) (fun hw => go hw)
    · obtain ⟨t, rfl⟩ : ∃ t, r = [t] := by
        match r, (show r.length = 1 by omega) with
        | [t], _ => exact ⟨t, rfl⟩
      cases A with
      | @cons v1 xs _ _ D1 A =>
      cases A
      have a1 : atI [V.str w, v1] 1 = some v1 := rfl
      simp only [e, a1]
      refine ⟨v1, t, 0, 60, rfl, D1, ?_⟩
      have : isOp (.tuple [.str w, t]) = fromTo 0 60 t := by
        simp only [isOp, hw1, if_pos hw]
        rfl
      rw [this] at k
      exact k _ (Ext.refl _)
    · match r, h2 with
      | [], _ => simp only [isOp, hw1]; rfl
      | [t], h2 => exact absurd rfl h2
      | _ :: _ :: _, _ =>
        simp only [isOp, hw1, if_pos hw]
        rfl
  intro nh
  refine hN _ _ ?_; clear hN N
  refine sq fun N hN => ?_
  simp only [tSeq, tIfS, tTest, tOp, tV, tC, tAsg, gName, gSub, tRet, tRetN, tCB, tCons, tNil, tDrop, tNext, tAnd, tOr, tNot, tAndV, tOrV, tNotV, tIf, tTru, tUn, tCallS, WE, tTup, tLst, tSl, tPart, tNoPart, tPar, tChain, tBM, tBM0, tM0, tM1, gTup, gCons, gNil, tInC, gC, gN, tCallK, tCst, tRevL, ok_str, ok_int, ok_bool, ok_tuple, ok_list, ok_dict, sub_str, sub_tup, sub_lst, sub_bool, sub_int, sub_dict, Bool.not_true, Bool.not_false, kisS_none, kisS_bool, kisS_int, kisS_str, kisS_list, kisS_tuple, kisS_dict, kisT_none, kisT_bool, kisT_int, kisT_str, kisT_list, kisT_tuple, kisT_dict, kisL_none, kisL_bool, kisL_int, kisL_str, kisL_list, kisL_tuple, kisL_dict, kisB_none, kisB_bool, kisB_int, kisB_str, kisB_list, kisB_tuple, kisB_dict, kisI_none, kisI_bool, kisI_int, kisI_str, kisI_list, kisI_tuple, kisI_dict, kisIB_none, kisIB_bool, kisIB_int, kisIB_str, kisIB_list, kisIB_tuple, kisIB_dict, kisD_none, kisD_bool, kisD_int, kisD_str, kisD_list, kisD_tuple, kisD_dict, rEqU, rNeU, rAdd_1, rAdd_2, rAdd_3, rAdd_4, rSub_1, rMul_1, rMul_2, rMul_3, rDiv_1, rMod_1, rPow_1, rNeg_1, rLt_1, rLe_1, rLe_2, rGt_1, rGe_1, rIs_1, rIs_2, rIsNot_1, rIsNot_2, rMem_1, rItem_1, rItem_2, rStore_1, rLen_1, rLen_2, rInt_1, rInt_2, rMax_1, rMin_1, rList_1, rTuple_1, rAbs_1, rIsi_1, rSlice_1, rSlice_2, mAppend_1, mExtend_1, mPop_1, mPop_2, mInsert_1, mUpper_1, rInT_1, eqR_rr, eqR_rs, eqR_ri, eqR_rb, eqR_rn, eqR_sr, eqR_ir, eqR_br, eqR_nr, isCol_l, isCol_t, isCol_d, isSeq_l, isSeq_t, iAny, wipe, tYes, List.isEmpty_nil, List.isEmpty_cons, truN_non, truN_bl, truN_int, tyN_non, tyN_bl, tyN_int, tyN_str, keyOf, scal_nn, scal_nb, scal_ni, scal_ns, scal_nr, scal_bn, scal_bb, scal_bs, scal_br, scal_in, scal_ii, scal_is, scal_ir, scal_sn, scal_sb, scal_si, scal_ss, scal_sr, scal_rn, scal_rb, scal_ri, scal_rs, scal_rr, decide_true, decide_false, List.map_cons, List.map_nil, List.set_cons_zero, List.set_cons_succ, List.getElem?_cons_zero, List.getElem?_cons_succ, List.getElem?_nil, exists_eq_left, exists_eq_left', V.bl.injEq, V.int.injEq, V.str.injEq, V.ref.injEq, if_true, if_false, ite_true, ite_false, Bool.false_eq_true, eq_self, true_and, and_true, decide_eq_true_eq]
  intro v3 H3 e3 L3
  cases L3 with
  | @tup a3 xs3 _ r3 A3 =>
  obtain rfl : xs3 = numWs.map V.str := DrA.strs (ws := numWs) A3
  have c3 := tup_new r3
  replace e := rdo_ext e e3
  replace A := DrA.ext e3 A
  replace no : isOp (.tuple (.str w :: r)) = false → ∀ H', Ext H3 H' → Q (.bl false) H' := fun z H' y => no z H' (e3.trans y)
  replace k : ∀ H', Ext H3 H' → Q (.bl (isOp (.tuple (.str w :: r)))) H' := fun H' y => k H' (e3.trans y)
  clear r3 A3 e3
  refine hN _ _ ?_; clear hN N
  refine sq fun N hN => ?_
  simp only [tSeq, tIfS, tTest, tOp, tV, tC, tAsg, gName, gSub, tRet, tRetN, tCB, tCons, tNil, tDrop, tNext, tAnd, tOr, tNot, tAndV, tOrV, tNotV, tIf, tTru, tUn, tCallS, WE, tTup, tLst, tSl, tPart, tNoPart, tPar, tChain, tBM, tBM0, tM0, tM1, gTup, gCons, gNil, tInC, gC, gN, tCallK, tCst, tRevL, ok_str, ok_int, ok_bool, ok_tuple, ok_list, ok_dict, sub_str, sub_tup, sub_lst, sub_bool, sub_int, sub_dict, Bool.not_true, Bool.not_false, kisS_none, kisS_bool, kisS_int, kisS_str, kisS_list, kisS_tuple, kisS_dict, kisT_none, kisT_bool, kisT_int, kisT_str, kisT_list, kisT_tuple, kisT_dict, kisL_none, kisL_bool, kisL_int, kisL_str, kisL_list, kisL_tuple, kisL_dict, kisB_none, kisB_bool, kisB_int, kisB_str, kisB_list, kisB_tuple, kisB_dict, kisI_none, kisI_bool, kisI_int, kisI_str, kisI_list, kisI_tuple, kisI_dict, kisIB_none, kisIB_bool, kisIB_int, kisIB_str, kisIB_list, kisIB_tuple, kisIB_dict, kisD_none, kisD_bool, kisD_int, kisD_str, kisD_list, kisD_tuple, kisD_dict, rEqU, rNeU, rAdd_1, rAdd_2, rAdd_3, rAdd_4, rSub_1, rMul_1, rMul_2, rMul_3, rDiv_1, rMod_1, rPow_1, rNeg_1, rLt_1, rLe_1, rLe_2, rGt_1, rGe_1, rIs_1, rIs_2, rIsNot_1, rIsNot_2, rMem_1, rItem_1, rItem_2, rStore_1, rLen_1, rLen_2, rInt_1, rInt_2, rMax_1, rMin_1, rList_1, rTuple_1, rAbs_1, rIsi_1, rSlice_1, rSlice_2, mAppend_1, mExtend_1, mPop_1, mPop_2, mInsert_1, mUpper_1, rInT_1, eqR_rr, eqR_rs, eqR_ri, eqR_rb, eqR_rn, eqR_sr, eqR_ir, eqR_br, eqR_nr, isCol_l, isCol_t, isCol_d, isSeq_l, isSeq_t, iAny, wipe, tYes, List.isEmpty_nil, List.isEmpty_cons, truN_non, truN_bl, truN_int, tyN_non, tyN_bl, tyN_int, tyN_str, keyOf, scal_nn, scal_nb, scal_ni, scal_ns, scal_nr, scal_bn, scal_bb, scal_bs, scal_br, scal_in, scal_ii, scal_is, scal_ir, scal_sn, scal_sb, scal_si, scal_ss, scal_sr, scal_rn, scal_rb, scal_ri, scal_rs, scal_rr, decide_true, decide_false, List.map_cons, List.map_nil, List.set_cons_zero, List.set_cons_succ, List.getElem?_cons_zero, List.getElem?_cons_succ, List.getElem?_nil, exists_eq_left, exists_eq_left', V.bl.injEq, V.int.injEq, V.str.injEq, V.ref.injEq, if_true, if_false, ite_true, ite_false, Bool.false_eq_true, eq_self, true_and, and_true, decide_eq_true_eq]
  intro v4 H4 e4 L4
  cases L4 with
  | @tup a4 xs4 _ r4 A4 =>
  obtain rfl : xs4 = lcWs.map V.str := DrA.strs (ws := lcWs) A4
  have c4 := tup_new r4
  replace c3 := e4 _ _ c3
  simp only [tSeq, tIfS, tTest, tOp, tV, tC, tAsg, gName, gSub, tRet, tRetN, tCB, tCons, tNil, tDrop, tNext, tAnd, tOr, tNot, tAndV, tOrV, tNotV, tIf, tTru, tUn, tCallS, WE, tTup, tLst, tSl, tPart, tNoPart, tPar, tChain, tBM, tBM0, tM0, tM1, gTup, gCons, gNil, tInC, gC, gN, tCallK, tCst, tRevL, ok_str, ok_int, ok_bool, ok_tuple, ok_list, ok_dict, sub_str, sub_tup, sub_lst, sub_bool, sub_int, sub_dict, Bool.not_true, Bool.not_false, kisS_none, kisS_bool, kisS_int, kisS_str, kisS_list, kisS_tuple, kisS_dict, kisT_none, kisT_bool, kisT_int, kisT_str, kisT_list, kisT_tuple, kisT_dict, kisL_none, kisL_bool, kisL_int, kisL_str, kisL_list, kisL_tuple, kisL_dict, kisB_none, kisB_bool, kisB_int, kisB_str, kisB_list, kisB_tuple, kisB_dict, kisI_none, kisI_bool, kisI_int, kisI_str, kisI_list, kisI_tuple, kisI_dict, kisIB_none, kisIB_bool, kisIB_int, kisIB_str, kisIB_list, kisIB_tuple, kisIB_dict, kisD_none, kisD_bool, kisD_int, kisD_str, kisD_list, kisD_tuple, kisD_dict, rEqU, rNeU, rAdd_1, rAdd_2, rAdd_3, rAdd_4, rSub_1, rMul_1, rMul_2, rMul_3, rDiv_1, rMod_1, rPow_1, rNeg_1, rLt_1, rLe_1, rLe_2, rGt_1, rGe_1, rIs_1, rIs_2, rIsNot_1, rIsNot_2, rMem_1, rItem_1, rItem_2, rStore_1, rLen_1, rLen_2, rInt_1, rInt_2, rMax_1, rMin_1, rList_1, rTuple_1, rAbs_1, rIsi_1, rSlice_1, rSlice_2, mAppend_1, mExtend_1, mPop_1, mPop_2, mInsert_1, mUpper_1, rInT_1, eqR_rr, eqR_rs, eqR_ri, eqR_rb, eqR_rn, eqR_sr, eqR_ir, eqR_br, eqR_nr, isCol_l, isCol_t, isCol_d, isSeq_l, isSeq_t, iAny, wipe, tYes, List.isEmpty_nil, List.isEmpty_cons, truN_non, truN_bl, truN_int, tyN_non, tyN_bl, tyN_int, tyN_str, keyOf, scal_nn, scal_nb, scal_ni, scal_ns, scal_nr, scal_bn, scal_bb, scal_bs, scal_br, scal_in, scal_ii, scal_is, scal_ir, scal_sn, scal_sb, scal_si, scal_ss, scal_sr, scal_rn, scal_rb, scal_ri, scal_rs, scal_rr, decide_true, decide_false, List.map_cons, List.map_nil, List.set_cons_zero, List.set_cons_succ, List.getElem?_cons_zero, List.getElem?_cons_succ, List.getElem?_nil, exists_eq_left, exists_eq_left', V.bl.injEq, V.int.injEq, V.str.injEq, V.ref.injEq, if_true, if_false, ite_true, ite_false, Bool.false_eq_true, eq_self, true_and, and_true, decide_eq_true_eq, c3, c4]
  refine ⟨by rw [List.length_map, List.length_map]; decide, fun z => absurd z (by decide), fun _ z => absurd z (by decide), fun _ _ p hp => ?_⟩
  rw [← List.map_append]
  have x5 : Ext H4 (upd H4 p (.tup ((numWs ++ lcWs).map V.str))) := Ext.new hp
  have r5 : rdo (upd H4 p (.tup ((numWs ++ lcWs).map V.str))) p = some (.tup ((numWs ++ lcWs).map V.str)) := rdo_of upd_same (fun _ _ z => nomatch z)
  generalize upd H4 p (.tup ((numWs ++ lcWs).map V.str)) = H5 at x5 r5 ⊢
  replace e := rdo_ext e (e4.trans x5)
  replace A := DrA.ext (e4.trans x5) A
  replace no : isOp (.tuple (.str w :: r)) = false → ∀ H', Ext H5 H' → Q (.bl false) H' := fun z H' y => no z H' ((e4.trans x5).trans y)
  replace k : ∀ H', Ext H5 H' → Q (.bl (isOp (.tuple (.str w :: r)))) H' := fun H' y => k H' ((e4.trans x5).trans y)
  have r6 : rdo H5 a3 = some (.tup (numWs.map V.str)) := rdo_ext (rdo_of c3 (fun _ _ z => nomatch z)) x5
  clear c3 c4 r4 A4 x5 e4 hp
  simp only [tSeq, tIfS, tTest, tOp, tV, tC, tAsg, gName, gSub, tRet, tRetN, tCB, tCons, tNil, tDrop, tNext, tAnd, tOr, tNot, tAndV, tOrV, tNotV, tIf, tTru, tUn, tCallS, WE, tTup, tLst, tSl, tPart, tNoPart, tPar, tChain, tBM, tBM0, tM0, tM1, gTup, gCons, gNil, tInC, gC, gN, tCallK, tCst, tRevL, ok_str, ok_int, ok_bool, ok_tuple, ok_list, ok_dict, sub_str, sub_tup, sub_lst, sub_bool, sub_int, sub_dict, Bool.not_true, Bool.not_false, kisS_none, kisS_bool, kisS_int, kisS_str, kisS_list, kisS_tuple, kisS_dict, kisT_none, kisT_bool, kisT_int, kisT_str, kisT_list, kisT_tuple, kisT_dict, kisL_none, kisL_bool, kisL_int, kisL_str, kisL_list, kisL_tuple, kisL_dict, kisB_none, kisB_bool, kisB_int, kisB_str, kisB_list, kisB_tuple, kisB_dict, kisI_none, kisI_bool, kisI_int, kisI_str, kisI_list, kisI_tuple, kisI_dict, kisIB_none, kisIB_bool, kisIB_int, kisIB_str, kisIB_list, kisIB_tuple, kisIB_dict, kisD_none, kisD_bool, kisD_int, kisD_str, kisD_list, kisD_tuple, kisD_dict, rEqU, rNeU, rAdd_1, rAdd_2, rAdd_3, rAdd_4, rSub_1, rMul_1, rMul_2, rMul_3, rDiv_1, rMod_1, rPow_1, rNeg_1, rLt_1, rLe_1, rLe_2, rGt_1, rGe_1, rIs_1, rIs_2, rIsNot_1, rIsNot_2, rMem_1, rItem_1, rItem_2, rStore_1, rLen_1, rLen_2, rInt_1, rInt_2, rMax_1, rMin_1, rList_1, rTuple_1, rAbs_1, rIsi_1, rSlice_1, rSlice_2, mAppend_1, mExtend_1, mPop_1, mPop_2, mInsert_1, mUpper_1, rInT_1, eqR_rr, eqR_rs, eqR_ri, eqR_rb, eqR_rn, eqR_sr, eqR_ir, eqR_br, eqR_nr, isCol_l, isCol_t, isCol_d, isSeq_l, isSeq_t, iAny, wipe, tYes, List.isEmpty_nil, List.isEmpty_cons, truN_non, truN_bl, truN_int, tyN_non, tyN_bl, tyN_int, tyN_str, keyOf, scal_nn, scal_nb, scal_ni, scal_ns, scal_nr, scal_bn, scal_bb, scal_bs, scal_br, scal_in, scal_ii, scal_is, scal_ir, scal_sn, scal_sb, scal_si, scal_ss, scal_sr, scal_rn, scal_rb, scal_ri, scal_rs, scal_rr, decide_true, decide_false, List.map_cons, List.map_nil, List.set_cons_zero, List.set_cons_succ, List.getElem?_cons_zero, List.getElem?_cons_succ, List.getElem?_nil, exists_eq_left, exists_eq_left', V.bl.injEq, V.int.injEq, V.str.injEq, V.ref.injEq, if_true, if_false, ite_true, ite_false, Bool.false_eq_true, eq_self, true_and, and_true, decide_eq_true_eq, r5]
  refine ⟨⟨rfl, flat_str _⟩, ?_⟩
  rw [inV_str]
  refine ite2 (fun hw => ?_) (fun hw => ?_)
  · have hw : inWs (numWs ++ lcWs) w = false := by
      rw [Bool.not_eq_true'] at hw
      exact hw
    rw [inWs_app, Bool.or_eq_false_iff] at hw
    refine no ?_ _ (Ext.refl _)
    have n1 : ¬ w = "lock" := fun z => by rw [z] at hw; exact absurd hw.2 (by decide)
    have n2 : ¬ w = "change" := fun z => by rw [z] at hw; exact absurd hw.2 (by decide)
    simp only [isOp, hw1]
    match r with
    | [] => rfl
    | t :: r =>
      have : isReq w r = false := by
        match r with
        | [] => rfl
        | [_] => rfl
        | [n, m] => simp only [isReq, decide_eq_false n1, Bool.false_and]
        | [n, m, x] => simp only [isReq, decide_eq_false n2, Bool.false_and]
        | _ :: _ :: _ :: _ :: _ => rfl
      simp only [if_neg nh, hw.1, this, Bool.and_false]
      simp
  have hw2 : inWs (numWs ++ lcWs) w = true := by
    cases hq : inWs (numWs ++ lcWs) w with
    | true => rfl
    | false => exact absurd (show (!inWs (numWs ++ lcWs) w) = true by rw [hq]; rfl) hw
  clear hw
  refine ite2 (fun h2 => ?_) (fun h2 => ?_)
  · match r, h2 with
    | [], _ => exact no (by simp only [isOp, hw1]; rfl) _ (Ext.refl _)
    | _ :: _, h2 =>
      simp only [List.length_cons] at h2
      omega
  match r, xs, A, h2 with
  | [], _, _, h2 => simp only [List.length_nil] at h2; omega
  | t :: r, _, A, _ =>
  cases A with
  | @cons v1 xs _ _ D1 A =>
  have a1 : atI (V.str w :: v1 :: xs) 1 = some v1 := atI_nat (j := 1) rfl
  have e6 : (10 : Int) ^ Int.toNat 6 = 1000000 := by decide
  simp only [e, a1, e6]
  refine ⟨by decide, v1, t, 1, 1000000, rfl, D1, ?_⟩
  simp only [tSeq, tIfS, tTest, tOp, tV, tC, tAsg, gName, gSub, tRet, tRetN, tCB, tCons, tNil, tDrop, tNext, tAnd, tOr, tNot, tAndV, tOrV, tNotV, tIf, tTru, tUn, tCallS, WE, tTup, tLst, tSl, tPart, tNoPart, tPar, tChain, tBM, tBM0, tM0, tM1, gTup, gCons, gNil, tInC, gC, gN, tCallK, tCst, tRevL, ok_str, ok_int, ok_bool, ok_tuple, ok_list, ok_dict, sub_str, sub_tup, sub_lst, sub_bool, sub_int, sub_dict, Bool.not_true, Bool.not_false, kisS_none, kisS_bool, kisS_int, kisS_str, kisS_list, kisS_tuple, kisS_dict, kisT_none, kisT_bool, kisT_int, kisT_str, kisT_list, kisT_tuple, kisT_dict, kisL_none, kisL_bool, kisL_int, kisL_str, kisL_list, kisL_tuple, kisL_dict, kisB_none, kisB_bool, kisB_int, kisB_str, kisB_list, kisB_tuple, kisB_dict, kisI_none, kisI_bool, kisI_int, kisI_str, kisI_list, kisI_tuple, kisI_dict, kisIB_none, kisIB_bool, kisIB_int, kisIB_str, kisIB_list, kisIB_tuple, kisIB_dict, kisD_none, kisD_bool, kisD_int, kisD_str, kisD_list, kisD_tuple, kisD_dict, rEqU, rNeU, rAdd_1, rAdd_2, rAdd_3, rAdd_4, rSub_1, rMul_1, rMul_2, rMul_3, rDiv_1, rMod_1, rPow_1, rNeg_1, rLt_1, rLe_1, rLe_2, rGt_1, rGe_1, rIs_1, rIs_2, rIsNot_1, rIsNot_2, rMem_1, rItem_1, rItem_2, rStore_1, rLen_1, rLen_2, rInt_1, rInt_2, rMax_1, rMin_1, rList_1, rTuple_1, rAbs_1, rIsi_1, rSlice_1, rSlice_2, mAppend_1, mExtend_1, mPop_1, mPop_2, mInsert_1, mUpper_1, rInT_1, eqR_rr, eqR_rs, eqR_ri, eqR_rb, eqR_rn, eqR_sr, eqR_ir, eqR_br, eqR_nr, isCol_l, isCol_t, isCol_d, isSeq_l, isSeq_t, iAny, wipe, tYes, List.isEmpty_nil, List.isEmpty_cons, truN_non, truN_bl, truN_int, tyN_non, tyN_bl, tyN_int, tyN_str, keyOf, scal_nn, scal_nb, scal_ni, scal_ns, scal_nr, scal_bn, scal_bb, scal_bs, scal_br, scal_in, scal_ii, scal_is, scal_ir, scal_sn, scal_sb, scal_si, scal_ss, scal_sr, scal_rn, scal_rb, scal_ri, scal_rs, scal_rr, decide_true, decide_false, List.map_cons, List.map_nil, List.set_cons_zero, List.set_cons_succ, List.getElem?_cons_zero, List.getElem?_cons_succ, List.getElem?_nil, exists_eq_left, exists_eq_left', V.bl.injEq, V.int.injEq, V.str.injEq, V.ref.injEq, if_true, if_false, ite_true, ite_false, Bool.false_eq_true, eq_self, true_and, and_true, decide_eq_true_eq]
  have e1 : isOp (.tuple (.str w :: t :: r)) = (fromTo 1 1000000 t && (if inWs numWs w = true then decide (r.length = 0) else isReq w r)) := by
    simp only [isOp, hw1, if_neg nh]
    rfl
  rw [e1] at k no
  refine ite2 (fun h3 => no ?_ _ (Ext.refl _)) (fun h3 => ?_)
  · rw [Bool.not_eq_true'] at h3
    rw [h3, Bool.false_and]
  have h3 : fromTo 1 1000000 t = true := by simpa using h3
  rw [h3, Bool.true_and] at k no
  clear e1 h3 e6
  refine hN _ _ ?_; clear hN N
  refine sq fun N hN => ?_
  suffices go : inWs numWs w = false → N [some (.ref a), some (.str w), some (.int ((t :: r).length + 1)), some (.ref a3), none] H5 by
    simp only [tSeq, tIfS, tTest, tOp, tV, tC, tAsg, gName, gSub, tRet, tRetN, tCB, tCons, tNil, tDrop, tNext, tAnd, tOr, tNot, tAndV, tOrV, tNotV, tIf, tTru, tUn, tCallS, WE, tTup, tLst, tSl, tPart, tNoPart, tPar, tChain, tBM, tBM0, tM0, tM1, gTup, gCons, gNil, tInC, gC, gN, tCallK, tCst, tRevL, ok_str, ok_int, ok_bool, ok_tuple, ok_list, ok_dict, sub_str, sub_tup, sub_lst, sub_bool, sub_int, sub_dict, Bool.not_true, Bool.not_false, kisS_none, kisS_bool, kisS_int, kisS_str, kisS_list, kisS_tuple, kisS_dict, kisT_none, kisT_bool, kisT_int, kisT_str, kisT_list, kisT_tuple, kisT_dict, kisL_none, kisL_bool, kisL_int, kisL_str, kisL_list, kisL_tuple, kisL_dict, kisB_none, kisB_bool, kisB_int, kisB_str, kisB_list, kisB_tuple, kisB_dict, kisI_none, kisI_bool, kisI_int, kisI_str, kisI_list, kisI_tuple, kisI_dict, kisIB_none, kisIB_bool, kisIB_int, kisIB_str, kisIB_list, kisIB_tuple, kisIB_dict, kisD_none, kisD_bool, kisD_int, kisD_str, kisD_list, kisD_tuple, kisD_dict, rEqU, rNeU, rAdd_1, rAdd_2, rAdd_3, rAdd_4, rSub_1, rMul_1, rMul_2, rMul_3, rDiv_1, rMod_1, rPow_1, rNeg_1, rLt_1, rLe_1, rLe_2, rGt_1, rGe_1, rIs_1, rIs_2, rIsNot_1, rIsNot_2, rMem_1, rItem_1, rItem_2, rStore_1, rLen_1, rLen_2, rInt_1, rInt_2, rMax_1, rMin_1, rList_1, rTuple_1, rAbs_1, rIsi_1, rSlice_1, rSlice_2, mAppend_1, mExtend_1, mPop_1, mPop_2, mInsert_1, mUpper_1, rInT_1, eqR_rr, eqR_rs, eqR_ri, eqR_rb, eqR_rn, eqR_sr, eqR_ir, eqR_br, eqR_nr, isCol_l, isCol_t, isCol_d, isSeq_l, isSeq_t, iAny, wipe, tYes, List.isEmpty_nil, List.isEmpty_cons, truN_non, truN_bl, truN_int, tyN_non, tyN_bl, tyN_int, tyN_str, keyOf, scal_nn, scal_nb, scal_ni, scal_ns, scal_nr, scal_bn, scal_bb, scal_bs, scal_br, scal_in, scal_ii, scal_is, scal_ir, scal_sn, scal_sb, scal_si, scal_ss, scal_sr, scal_rn, scal_rb, scal_ri, scal_rs, scal_rr, decide_true, decide_false, List.map_cons, List.map_nil, List.set_cons_zero, List.set_cons_succ, List.getElem?_cons_zero, List.getElem?_cons_succ, List.getElem?_nil, exists_eq_left, exists_eq_left', V.bl.injEq, V.int.injEq, V.str.injEq, V.ref.injEq, if_true, if_false, ite_true, ite_false, Bool.false_eq_true, eq_self, true_and, and_true, decide_eq_true_eq, r6]
    refine ⟨⟨rfl, flat_str _⟩, ?_⟩
    rw [inV_str]
    refine ite2 (fun hw => ?_) (fun hw => go (not_isT' hw))
    have hw : inWs numWs w = true := hw
    rw [if_pos hw] at k
    rw [show decide (((t :: r).length : Int) + 1 = 2) = decide (r.length = 0) from decide_eq_decide.mpr (by simp only [List.length_cons]; omega)]
    exact k _ (Ext.refl _)
  intro hn
  rw [hn] at k no
  simp only [Bool.false_eq_true, if_false] at k no
  rw [inWs_app, hn, Bool.false_or] at hw2
  have hz : ∀ d ∈ r, txtOk d := fun d hd => hz d (List.mem_cons_of_mem _ (List.mem_cons_of_mem _ hd))
  refine hN _ _ ?_; clear hN N
  refine sq fun N hN => ?_
  have hw2 : w = "lock" ∨ w = "change" := by
    simp only [inWs, lcWs, List.any_cons, List.any_nil, Bool.or_false, Bool.or_eq_true, decide_eq_true_eq] at hw2
    exact hw2.imp Eq.symm Eq.symm
  rcases hw2 with rfl | rfl
  · suffices go : ∀ n m v2 v3 H', r = [n, m] → xs = [v2, v3] → Ext H5 H' → isNam n = true → isS m = true → Dr H' v3 m → rdo H' a = some (.tup [V.str "lock", v1, v2, v3]) → N [some (.ref a), some (.str "lock"), some (.int ((t :: r).length + 1)), some (.ref a3), none] H' by
      simp only [tSeq, tIfS, tTest, tOp, tV, tC, tAsg, gName, gSub, tRet, tRetN, tCB, tCons, tNil, tDrop, tNext, tAnd, tOr, tNot, tAndV, tOrV, tNotV, tIf, tTru, tUn, tCallS, WE, tTup, tLst, tSl, tPart, tNoPart, tPar, tChain, tBM, tBM0, tM0, tM1, gTup, gCons, gNil, tInC, gC, gN, tCallK, tCst, tRevL, ok_str, ok_int, ok_bool, ok_tuple, ok_list, ok_dict, sub_str, sub_tup, sub_lst, sub_bool, sub_int, sub_dict, Bool.not_true, Bool.not_false, kisS_none, kisS_bool, kisS_int, kisS_str, kisS_list, kisS_tuple, kisS_dict, kisT_none, kisT_bool, kisT_int, kisT_str, kisT_list, kisT_tuple, kisT_dict, kisL_none, kisL_bool, kisL_int, kisL_str, kisL_list, kisL_tuple, kisL_dict, kisB_none, kisB_bool, kisB_int, kisB_str, kisB_list, kisB_tuple, kisB_dict, kisI_none, kisI_bool, kisI_int, kisI_str, kisI_list, kisI_tuple, kisI_dict, kisIB_none, kisIB_bool, kisIB_int, kisIB_str, kisIB_list, kisIB_tuple, kisIB_dict, kisD_none, kisD_bool, kisD_int, kisD_str, kisD_list, kisD_tuple, kisD_dict, rEqU, rNeU, rAdd_1, rAdd_2, rAdd_3, rAdd_4, rSub_1, rMul_1, rMul_2, rMul_3, rDiv_1, rMod_1, rPow_1, rNeg_1, rLt_1, rLe_1, rLe_2, rGt_1, rGe_1, rIs_1, rIs_2, rIsNot_1, rIsNot_2, rMem_1, rItem_1, rItem_2, rStore_1, rLen_1, rLen_2, rInt_1, rInt_2, rMax_1, rMin_1, rList_1, rTuple_1, rAbs_1, rIsi_1, rSlice_1, rSlice_2, mAppend_1, mExtend_1, mPop_1, mPop_2, mInsert_1, mUpper_1, rInT_1, eqR_rr, eqR_rs, eqR_ri, eqR_rb, eqR_rn, eqR_sr, eqR_ir, eqR_br, eqR_nr, isCol_l, isCol_t, isCol_d, isSeq_l, isSeq_t, iAny, wipe, tYes, List.isEmpty_nil, List.isEmpty_cons, truN_non, truN_bl, truN_int, tyN_non, tyN_bl, tyN_int, tyN_str, keyOf, scal_nn, scal_nb, scal_ni, scal_ns, scal_nr, scal_bn, scal_bb, scal_bs, scal_br, scal_in, scal_ii, scal_is, scal_ir, scal_sn, scal_sb, scal_si, scal_ss, scal_sr, scal_rn, scal_rb, scal_ri, scal_rs, scal_rr, decide_true, decide_false, List.map_cons, List.map_nil, List.set_cons_zero, List.set_cons_succ, List.getElem?_cons_zero, List.getElem?_cons_succ, List.getElem?_nil, exists_eq_left, exists_eq_left', V.bl.injEq, V.int.injEq, V.str.injEq, V.ref.injEq, if_true, if_false, ite_true, ite_false, Bool.false_eq_true, eq_self, true_and, and_true, decide_eq_true_eq]
      rw [if_neg (show ¬ ("lock" : Str) = "change" by decide)]
      refine ite2 (fun h2 => no ?_ _ (Ext.refl _)) (fun h2 => ?_)
      · have h2 : ¬ r.length = 2 := fun z => by simp [z] at h2
        match r, h2 with
        | [], _ => rfl
        | [_], _ => rfl
        | [n, m], h2 => exact absurd rfl h2
        | [n, m, x], _ => simp only [isReq, decide_eq_false (show ¬ ("lock" : Str) = "change" by decide), Bool.false_and]
        | _ :: _ :: _ :: _ :: _, _ => rfl
      have h2 : r.length = 2 := by
        by_cases z : r.length = 2
        · exact z
        · refine absurd ?_ h2
          rw [decide_eq_false (by simp only [List.length_cons]; omega)]
          rfl
      obtain ⟨n, m, rfl⟩ : ∃ n m, r = [n, m] := by
        match r, h2 with
        | [n, m], _ => exact ⟨n, m, rfl⟩
      cases A with
      | @cons v2 xs _ _ D2 A =>
      cases A with
      | @cons v3 xs _ _ D3 A =>
      cases A
      have a2 : atI [V.str "lock", v1, v2, v3] 2 = some v2 := rfl
      have a3 : atI [V.str "lock", v1, v2, v3] 3 = some v3 := rfl
      simp only [e, a2]
      refine ⟨v2, n, rfl, D2, hz n (by simp), fun H6 x6 => ?_⟩
      simp only [tSeq, tIfS, tTest, tOp, tV, tC, tAsg, gName, gSub, tRet, tRetN, tCB, tCons, tNil, tDrop, tNext, tAnd, tOr, tNot, tAndV, tOrV, tNotV, tIf, tTru, tUn, tCallS, WE, tTup, tLst, tSl, tPart, tNoPart, tPar, tChain, tBM, tBM0, tM0, tM1, gTup, gCons, gNil, tInC, gC, gN, tCallK, tCst, tRevL, ok_str, ok_int, ok_bool, ok_tuple, ok_list, ok_dict, sub_str, sub_tup, sub_lst, sub_bool, sub_int, sub_dict, Bool.not_true, Bool.not_false, kisS_none, kisS_bool, kisS_int, kisS_str, kisS_list, kisS_tuple, kisS_dict, kisT_none, kisT_bool, kisT_int, kisT_str, kisT_list, kisT_tuple, kisT_dict, kisL_none, kisL_bool, kisL_int, kisL_str, kisL_list, kisL_tuple, kisL_dict, kisB_none, kisB_bool, kisB_int, kisB_str, kisB_list, kisB_tuple, kisB_dict, kisI_none, kisI_bool, kisI_int, kisI_str, kisI_list, kisI_tuple, kisI_dict, kisIB_none, kisIB_bool, kisIB_int, kisIB_str, kisIB_list, kisIB_tuple, kisIB_dict, kisD_none, kisD_bool, kisD_int, kisD_str, kisD_list, kisD_tuple, kisD_dict, rEqU, rNeU, rAdd_1, rAdd_2, rAdd_3, rAdd_4, rSub_1, rMul_1, rMul_2, rMul_3, rDiv_1, rMod_1, rPow_1, rNeg_1, rLt_1, rLe_1, rLe_2, rGt_1, rGe_1, rIs_1, rIs_2, rIsNot_1, rIsNot_2, rMem_1, rItem_1, rItem_2, rStore_1, rLen_1, rLen_2, rInt_1, rInt_2, rMax_1, rMin_1, rList_1, rTuple_1, rAbs_1, rIsi_1, rSlice_1, rSlice_2, mAppend_1, mExtend_1, mPop_1, mPop_2, mInsert_1, mUpper_1, rInT_1, eqR_rr, eqR_rs, eqR_ri, eqR_rb, eqR_rn, eqR_sr, eqR_ir, eqR_br, eqR_nr, isCol_l, isCol_t, isCol_d, isSeq_l, isSeq_t, iAny, wipe, tYes, List.isEmpty_nil, List.isEmpty_cons, truN_non, truN_bl, truN_int, tyN_non, tyN_bl, tyN_int, tyN_str, keyOf, scal_nn, scal_nb, scal_ni, scal_ns, scal_nr, scal_bn, scal_bb, scal_bs, scal_br, scal_in, scal_ii, scal_is, scal_ir, scal_sn, scal_sb, scal_si, scal_ss, scal_sr, scal_rn, scal_rb, scal_ri, scal_rs, scal_rr, decide_true, decide_false, List.map_cons, List.map_nil, List.set_cons_zero, List.set_cons_succ, List.getElem?_cons_zero, List.getElem?_cons_succ, List.getElem?_nil, exists_eq_left, exists_eq_left', V.bl.injEq, V.int.injEq, V.str.injEq, V.ref.injEq, if_true, if_false, ite_true, ite_false, Bool.false_eq_true, eq_self, true_and, and_true, decide_eq_true_eq]
      refine ite2 (fun h3 => no ?_ _ x6) (fun h3 => ?_)
      · rw [Bool.not_eq_true'] at h3
        simp only [isReq, h3, Bool.false_and, Bool.and_false]
      have h3 : isNam n = true := by simpa using h3
      simp only [rdo_ext e x6, a3, tyN_dr (D3.ext x6), sub_str]
      refine ite2 (fun h4 => no ?_ _ x6) (fun h4 => go n m v2 v3 H6 rfl rfl x6 h3 (by simpa using h4) (D3.ext x6) (rdo_ext e x6))
      rw [Bool.not_eq_true'] at h4
      have : inS modeWs m = false := by cases m <;> first | rfl | cases h4
      simp only [isReq, this, Bool.and_false]
    intro n m v2 v3 H6 er ex x6 hn hm D3 e6
    subst er ex
    obtain ⟨m, rfl⟩ := of_isS hm
    obtain rfl := dr_str D3
    have e9 : isReq "lock" [n, .str m] = inS modeWs (.str m) := by simp only [isReq, hn, Bool.true_and]; rfl
    rw [e9] at k
    refine hN _ _ ?_; clear hN N
    refine sq fun N hN => ?_
    simp only [tSeq, tIfS, tTest, tOp, tV, tC, tAsg, gName, gSub, tRet, tRetN, tCB, tCons, tNil, tDrop, tNext, tAnd, tOr, tNot, tAndV, tOrV, tNotV, tIf, tTru, tUn, tCallS, WE, tTup, tLst, tSl, tPart, tNoPart, tPar, tChain, tBM, tBM0, tM0, tM1, gTup, gCons, gNil, tInC, gC, gN, tCallK, tCst, tRevL, ok_str, ok_int, ok_bool, ok_tuple, ok_list, ok_dict, sub_str, sub_tup, sub_lst, sub_bool, sub_int, sub_dict, Bool.not_true, Bool.not_false, kisS_none, kisS_bool, kisS_int, kisS_str, kisS_list, kisS_tuple, kisS_dict, kisT_none, kisT_bool, kisT_int, kisT_str, kisT_list, kisT_tuple, kisT_dict, kisL_none, kisL_bool, kisL_int, kisL_str, kisL_list, kisL_tuple, kisL_dict, kisB_none, kisB_bool, kisB_int, kisB_str, kisB_list, kisB_tuple, kisB_dict, kisI_none, kisI_bool, kisI_int, kisI_str, kisI_list, kisI_tuple, kisI_dict, kisIB_none, kisIB_bool, kisIB_int, kisIB_str, kisIB_list, kisIB_tuple, kisIB_dict, kisD_none, kisD_bool, kisD_int, kisD_str, kisD_list, kisD_tuple, kisD_dict, rEqU, rNeU, rAdd_1, rAdd_2, rAdd_3, rAdd_4, rSub_1, rMul_1, rMul_2, rMul_3, rDiv_1, rMod_1, rPow_1, rNeg_1, rLt_1, rLe_1, rLe_2, rGt_1, rGe_1, rIs_1, rIs_2, rIsNot_1, rIsNot_2, rMem_1, rItem_1, rItem_2, rStore_1, rLen_1, rLen_2, rInt_1, rInt_2, rMax_1, rMin_1, rList_1, rTuple_1, rAbs_1, rIsi_1, rSlice_1, rSlice_2, mAppend_1, mExtend_1, mPop_1, mPop_2, mInsert_1, mUpper_1, rInT_1, eqR_rr, eqR_rs, eqR_ri, eqR_rb, eqR_rn, eqR_sr, eqR_ir, eqR_br, eqR_nr, isCol_l, isCol_t, isCol_d, isSeq_l, isSeq_t, iAny, wipe, tYes, List.isEmpty_nil, List.isEmpty_cons, truN_non, truN_bl, truN_int, tyN_non, tyN_bl, tyN_int, tyN_str, keyOf, scal_nn, scal_nb, scal_ni, scal_ns, scal_nr, scal_bn, scal_bb, scal_bs, scal_br, scal_in, scal_ii, scal_is, scal_ir, scal_sn, scal_sb, scal_si, scal_ss, scal_sr, scal_rn, scal_rb, scal_ri, scal_rs, scal_rr, decide_true, decide_false, List.map_cons, List.map_nil, List.set_cons_zero, List.set_cons_succ, List.getElem?_cons_zero, List.getElem?_cons_succ, List.getElem?_nil, exists_eq_left, exists_eq_left', V.bl.injEq, V.int.injEq, V.str.injEq, V.ref.injEq, if_true, if_false, ite_true, ite_false, Bool.false_eq_true, eq_self, true_and, and_true, decide_eq_true_eq]
    intro v7 H7 e7 L7
    cases L7 with
    | @lst a7 xs7 _ r7 A7 =>
    obtain rfl : xs7 = modeWs.map V.str := DrA.strs (ws := modeWs) A7
    have r7 := rdo_of (lst_new r7) (fun _ _ z => nomatch z)
    rw [if_neg (show ¬ ("lock" : Str) = "change" by decide)]
    simp only [tSeq, tIfS, tTest, tOp, tV, tC, tAsg, gName, gSub, tRet, tRetN, tCB, tCons, tNil, tDrop, tNext, tAnd, tOr, tNot, tAndV, tOrV, tNotV, tIf, tTru, tUn, tCallS, WE, tTup, tLst, tSl, tPart, tNoPart, tPar, tChain, tBM, tBM0, tM0, tM1, gTup, gCons, gNil, tInC, gC, gN, tCallK, tCst, tRevL, ok_str, ok_int, ok_bool, ok_tuple, ok_list, ok_dict, sub_str, sub_tup, sub_lst, sub_bool, sub_int, sub_dict, Bool.not_true, Bool.not_false, kisS_none, kisS_bool, kisS_int, kisS_str, kisS_list, kisS_tuple, kisS_dict, kisT_none, kisT_bool, kisT_int, kisT_str, kisT_list, kisT_tuple, kisT_dict, kisL_none, kisL_bool, kisL_int, kisL_str, kisL_list, kisL_tuple, kisL_dict, kisB_none, kisB_bool, kisB_int, kisB_str, kisB_list, kisB_tuple, kisB_dict, kisI_none, kisI_bool, kisI_int, kisI_str, kisI_list, kisI_tuple, kisI_dict, kisIB_none, kisIB_bool, kisIB_int, kisIB_str, kisIB_list, kisIB_tuple, kisIB_dict, kisD_none, kisD_bool, kisD_int, kisD_str, kisD_list, kisD_tuple, kisD_dict, rEqU, rNeU, rAdd_1, rAdd_2, rAdd_3, rAdd_4, rSub_1, rMul_1, rMul_2, rMul_3, rDiv_1, rMod_1, rPow_1, rNeg_1, rLt_1, rLe_1, rLe_2, rGt_1, rGe_1, rIs_1, rIs_2, rIsNot_1, rIsNot_2, rMem_1, rItem_1, rItem_2, rStore_1, rLen_1, rLen_2, rInt_1, rInt_2, rMax_1, rMin_1, rList_1, rTuple_1, rAbs_1, rIsi_1, rSlice_1, rSlice_2, mAppend_1, mExtend_1, mPop_1, mPop_2, mInsert_1, mUpper_1, rInT_1, eqR_rr, eqR_rs, eqR_ri, eqR_rb, eqR_rn, eqR_sr, eqR_ir, eqR_br, eqR_nr, isCol_l, isCol_t, isCol_d, isSeq_l, isSeq_t, iAny, wipe, tYes, List.isEmpty_nil, List.isEmpty_cons, truN_non, truN_bl, truN_int, tyN_non, tyN_bl, tyN_int, tyN_str, keyOf, scal_nn, scal_nb, scal_ni, scal_ns, scal_nr, scal_bn, scal_bb, scal_bs, scal_br, scal_in, scal_ii, scal_is, scal_ir, scal_sn, scal_sb, scal_si, scal_ss, scal_sr, scal_rn, scal_rb, scal_ri, scal_rs, scal_rr, decide_true, decide_false, List.map_cons, List.map_nil, List.set_cons_zero, List.set_cons_succ, List.getElem?_cons_zero, List.getElem?_cons_succ, List.getElem?_nil, exists_eq_left, exists_eq_left', V.bl.injEq, V.int.injEq, V.str.injEq, V.ref.injEq, if_true, if_false, ite_true, ite_false, Bool.false_eq_true, eq_self, true_and, and_true, decide_eq_true_eq, r7]
    refine ⟨mul_ok (by decide), fun p hp => ?_⟩
    rw [show cutV (modeWs.map V.str) (some (2 * 0)) none = modeWs.map V.str by decide]
    have x8 : Ext H7 (upd H7 p (.lst (modeWs.map V.str))) := Ext.new hp
    have r8 : rdo (upd H7 p (.lst (modeWs.map V.str))) p = some (.lst (modeWs.map V.str)) := rdo_of upd_same (fun _ _ z => nomatch z)
    generalize upd H7 p (.lst (modeWs.map V.str)) = H8 at x8 r8 ⊢
    replace e6 := rdo_ext (rdo_ext e6 e7) x8
    have k := k _ ((x6.trans e7).trans x8)
    have a3 : atI [V.str "lock", v1, v2, .str m] 3 = some (.str m) := rfl
    refine hN _ _ ?_; clear hN N
    simp only [tSeq, tIfS, tTest, tOp, tV, tC, tAsg, gName, gSub, tRet, tRetN, tCB, tCons, tNil, tDrop, tNext, tAnd, tOr, tNot, tAndV, tOrV, tNotV, tIf, tTru, tUn, tCallS, WE, tTup, tLst, tSl, tPart, tNoPart, tPar, tChain, tBM, tBM0, tM0, tM1, gTup, gCons, gNil, tInC, gC, gN, tCallK, tCst, tRevL, ok_str, ok_int, ok_bool, ok_tuple, ok_list, ok_dict, sub_str, sub_tup, sub_lst, sub_bool, sub_int, sub_dict, Bool.not_true, Bool.not_false, kisS_none, kisS_bool, kisS_int, kisS_str, kisS_list, kisS_tuple, kisS_dict, kisT_none, kisT_bool, kisT_int, kisT_str, kisT_list, kisT_tuple, kisT_dict, kisL_none, kisL_bool, kisL_int, kisL_str, kisL_list, kisL_tuple, kisL_dict, kisB_none, kisB_bool, kisB_int, kisB_str, kisB_list, kisB_tuple, kisB_dict, kisI_none, kisI_bool, kisI_int, kisI_str, kisI_list, kisI_tuple, kisI_dict, kisIB_none, kisIB_bool, kisIB_int, kisIB_str, kisIB_list, kisIB_tuple, kisIB_dict, kisD_none, kisD_bool, kisD_int, kisD_str, kisD_list, kisD_tuple, kisD_dict, rEqU, rNeU, rAdd_1, rAdd_2, rAdd_3, rAdd_4, rSub_1, rMul_1, rMul_2, rMul_3, rDiv_1, rMod_1, rPow_1, rNeg_1, rLt_1, rLe_1, rLe_2, rGt_1, rGe_1, rIs_1, rIs_2, rIsNot_1, rIsNot_2, rMem_1, rItem_1, rItem_2, rStore_1, rLen_1, rLen_2, rInt_1, rInt_2, rMax_1, rMin_1, rList_1, rTuple_1, rAbs_1, rIsi_1, rSlice_1, rSlice_2, mAppend_1, mExtend_1, mPop_1, mPop_2, mInsert_1, mUpper_1, rInT_1, eqR_rr, eqR_rs, eqR_ri, eqR_rb, eqR_rn, eqR_sr, eqR_ir, eqR_br, eqR_nr, isCol_l, isCol_t, isCol_d, isSeq_l, isSeq_t, iAny, wipe, tYes, List.isEmpty_nil, List.isEmpty_cons, truN_non, truN_bl, truN_int, tyN_non, tyN_bl, tyN_int, tyN_str, keyOf, scal_nn, scal_nb, scal_ni, scal_ns, scal_nr, scal_bn, scal_bb, scal_bs, scal_br, scal_in, scal_ii, scal_is, scal_ir, scal_sn, scal_sb, scal_si, scal_ss, scal_sr, scal_rn, scal_rb, scal_ri, scal_rs, scal_rr, decide_true, decide_false, List.map_cons, List.map_nil, List.set_cons_zero, List.set_cons_succ, List.getElem?_cons_zero, List.getElem?_cons_succ, List.getElem?_nil, exists_eq_left, exists_eq_left', V.bl.injEq, V.int.injEq, V.str.injEq, V.ref.injEq, if_true, if_false, ite_true, ite_false, Bool.false_eq_true, eq_self, true_and, and_true, decide_eq_true_eq, e6, a3, r8]
    refine ⟨⟨rfl, flat_str _⟩, ?_⟩
    rw [inV_str]
    refine ite2 (fun hq => ?_) (fun hq => ?_)
    · rw [show inS modeWs (.str m) = true from hq] at k
      exact k
    · rw [show inS modeWs (.str m) = false from not_isT' hq] at k
      exact k
  · suffices go : ∀ n m z v2 v3 v4 H', r = [n, m, z] → xs = [v2, v3, v4] → Ext H5 H' → isNam n = true → isS m = true → Dr H' v3 m → Dr H' v4 z → rdo H' a = some (.tup [V.str "change", v1, v2, v3, v4]) → N [some (.ref a), some (.str "change"), some (.int ((t :: r).length + 1)), some (.ref a3), none] H' by
      simp only [tSeq, tIfS, tTest, tOp, tV, tC, tAsg, gName, gSub, tRet, tRetN, tCB, tCons, tNil, tDrop, tNext, tAnd, tOr, tNot, tAndV, tOrV, tNotV, tIf, tTru, tUn, tCallS, WE, tTup, tLst, tSl, tPart, tNoPart, tPar, tChain, tBM, tBM0, tM0, tM1, gTup, gCons, gNil, tInC, gC, gN, tCallK, tCst, tRevL, ok_str, ok_int, ok_bool, ok_tuple, ok_list, ok_dict, sub_str, sub_tup, sub_lst, sub_bool, sub_int, sub_dict, Bool.not_true, Bool.not_false, kisS_none, kisS_bool, kisS_int, kisS_str, kisS_list, kisS_tuple, kisS_dict, kisT_none, kisT_bool, kisT_int, kisT_str, kisT_list, kisT_tuple, kisT_dict, kisL_none, kisL_bool, kisL_int, kisL_str, kisL_list, kisL_tuple, kisL_dict, kisB_none, kisB_bool, kisB_int, kisB_str, kisB_list, kisB_tuple, kisB_dict, kisI_none, kisI_bool, kisI_int, kisI_str, kisI_list, kisI_tuple, kisI_dict, kisIB_none, kisIB_bool, kisIB_int, kisIB_str, kisIB_list, kisIB_tuple, kisIB_dict, kisD_none, kisD_bool, kisD_int, kisD_str, kisD_list, kisD_tuple, kisD_dict, rEqU, rNeU, rAdd_1, rAdd_2, rAdd_3, rAdd_4, rSub_1, rMul_1, rMul_2, rMul_3, rDiv_1, rMod_1, rPow_1, rNeg_1, rLt_1, rLe_1, rLe_2, rGt_1, rGe_1, rIs_1, rIs_2, rIsNot_1, rIsNot_2, rMem_1, rItem_1, rItem_2, rStore_1, rLen_1, rLen_2, rInt_1, rInt_2, rMax_1, rMin_1, rList_1, rTuple_1, rAbs_1, rIsi_1, rSlice_1, rSlice_2, mAppend_1, mExtend_1, mPop_1, mPop_2, mInsert_1, mUpper_1, rInT_1, eqR_rr, eqR_rs, eqR_ri, eqR_rb, eqR_rn, eqR_sr, eqR_ir, eqR_br, eqR_nr, isCol_l, isCol_t, isCol_d, isSeq_l, isSeq_t, iAny, wipe, tYes, List.isEmpty_nil, List.isEmpty_cons, truN_non, truN_bl, truN_int, tyN_non, tyN_bl, tyN_int, tyN_str, keyOf, scal_nn, scal_nb, scal_ni, scal_ns, scal_nr, scal_bn, scal_bb, scal_bs, scal_br, scal_in, scal_ii, scal_is, scal_ir, scal_sn, scal_sb, scal_si, scal_ss, scal_sr, scal_rn, scal_rb, scal_ri, scal_rs, scal_rr, decide_true, decide_false, List.map_cons, List.map_nil, List.set_cons_zero, List.set_cons_succ, List.getElem?_cons_zero, List.getElem?_cons_succ, List.getElem?_nil, exists_eq_left, exists_eq_left', V.bl.injEq, V.int.injEq, V.str.injEq, V.ref.injEq, if_true, if_false, ite_true, ite_false, Bool.false_eq_true, eq_self, true_and, and_true, decide_eq_true_eq]
      refine ite2 (fun h2 => no ?_ _ (Ext.refl _)) (fun h2 => ?_)
      · have h2 : ¬ r.length = 3 := fun z => by simp [z] at h2
        match r, h2 with
        | [], _ => rfl
        | [_], _ => rfl
        | [n, m], _ => simp only [isReq, decide_eq_false (show ¬ ("change" : Str) = "lock" by decide), Bool.false_and]
        | [n, m, x], h2 => exact absurd rfl h2
        | _ :: _ :: _ :: _ :: _, _ => rfl
      have h2 : r.length = 3 := by
        by_cases z : r.length = 3
        · exact z
        · refine absurd ?_ h2
          rw [decide_eq_false (by simp only [List.length_cons]; omega)]
          rfl
      obtain ⟨n, m, z, rfl⟩ : ∃ n m z, r = [n, m, z] := by
        match r, h2 with
        | [n, m, z], _ => exact ⟨n, m, z, rfl⟩
      cases A with
      | @cons v2 xs _ _ D2 A =>
      cases A with
      | @cons v3 xs _ _ D3 A =>
      cases A with
      | @cons v4 xs _ _ D4 A =>
      cases A
      have a2 : atI [V.str "change", v1, v2, v3, v4] 2 = some v2 := rfl
      have a3 : atI [V.str "change", v1, v2, v3, v4] 3 = some v3 := rfl
      simp only [e, a2]
      refine ⟨v2, n, rfl, D2, hz n (by simp), fun H6 x6 => ?_⟩
      simp only [tSeq, tIfS, tTest, tOp, tV, tC, tAsg, gName, gSub, tRet, tRetN, tCB, tCons, tNil, tDrop, tNext, tAnd, tOr, tNot, tAndV, tOrV, tNotV, tIf, tTru, tUn, tCallS, WE, tTup, tLst, tSl, tPart, tNoPart, tPar, tChain, tBM, tBM0, tM0, tM1, gTup, gCons, gNil, tInC, gC, gN, tCallK, tCst, tRevL, ok_str, ok_int, ok_bool, ok_tuple, ok_list, ok_dict, sub_str, sub_tup, sub_lst, sub_bool, sub_int, sub_dict, Bool.not_true, Bool.not_false, kisS_none, kisS_bool, kisS_int, kisS_str, kisS_list, kisS_tuple, kisS_dict, kisT_none, kisT_bool, kisT_int, kisT_str, kisT_list, kisT_tuple, kisT_dict, kisL_none, kisL_bool, kisL_int, kisL_str, kisL_list, kisL_tuple, kisL_dict, kisB_none, kisB_bool, kisB_int, kisB_str, kisB_list, kisB_tuple, kisB_dict, kisI_none, kisI_bool, kisI_int, kisI_str, kisI_list, kisI_tuple, kisI_dict, kisIB_none, kisIB_bool, kisIB_int, kisIB_str, kisIB_list, kisIB_tuple, kisIB_dict, kisD_none, kisD_bool, kisD_int, kisD_str, kisD_list, kisD_tuple, kisD_dict, rEqU, rNeU, rAdd_1, rAdd_2, rAdd_3, rAdd_4, rSub_1, rMul_1, rMul_2, rMul_3, rDiv_1, rMod_1, rPow_1, rNeg_1, rLt_1, rLe_1, rLe_2, rGt_1, rGe_1, rIs_1, rIs_2, rIsNot_1, rIsNot_2, rMem_1, rItem_1, rItem_2, rStore_1, rLen_1, rLen_2, rInt_1, rInt_2, rMax_1, rMin_1, rList_1, rTuple_1, rAbs_1, rIsi_1, rSlice_1, rSlice_2, mAppend_1, mExtend_1, mPop_1, mPop_2, mInsert_1, mUpper_1, rInT_1, eqR_rr, eqR_rs, eqR_ri, eqR_rb, eqR_rn, eqR_sr, eqR_ir, eqR_br, eqR_nr, isCol_l, isCol_t, isCol_d, isSeq_l, isSeq_t, iAny, wipe, tYes, List.isEmpty_nil, List.isEmpty_cons, truN_non, truN_bl, truN_int, tyN_non, tyN_bl, tyN_int, tyN_str, keyOf, scal_nn, scal_nb, scal_ni, scal_ns, scal_nr, scal_bn, scal_bb, scal_bs, scal_br, scal_in, scal_ii, scal_is, scal_ir, scal_sn, scal_sb, scal_si, scal_ss, scal_sr, scal_rn, scal_rb, scal_ri, scal_rs, scal_rr, decide_true, decide_false, List.map_cons, List.map_nil, List.set_cons_zero, List.set_cons_succ, List.getElem?_cons_zero, List.getElem?_cons_succ, List.getElem?_nil, exists_eq_left, exists_eq_left', V.bl.injEq, V.int.injEq, V.str.injEq, V.ref.injEq, if_true, if_false, ite_true, ite_false, Bool.false_eq_true, eq_self, true_and, and_true, decide_eq_true_eq]
      refine ite2 (fun h3 => no ?_ _ x6) (fun h3 => ?_)
      · rw [Bool.not_eq_true'] at h3
        simp only [isReq, h3, Bool.false_and, Bool.and_false]
      have h3 : isNam n = true := by simpa using h3
      simp only [rdo_ext e x6, a3, tyN_dr (D3.ext x6), sub_str]
      refine ite2 (fun h4 => no ?_ _ x6) (fun h4 => go n m z v2 v3 v4 H6 rfl rfl x6 h3 (by simpa using h4) (D3.ext x6) (D4.ext x6) (rdo_ext e x6))
      rw [Bool.not_eq_true'] at h4
      have : inS changeWs m = false := by cases m <;> first | rfl | cases h4
      simp only [isReq, this, Bool.and_false, Bool.false_and]
    intro n m z v2 v3 v4 H6 er ex x6 hn hm D3 D4 e6
    subst er ex
    obtain ⟨m, rfl⟩ := of_isS hm
    obtain rfl := dr_str D3
    have e9 : isReq "change" [n, .str m, z] = (inS changeWs (.str m) && isVal z) := by simp only [isReq, hn, Bool.true_and]; rfl
    rw [e9] at k
    refine hN _ _ ?_; clear hN N
    refine sq fun N hN => ?_
    simp only [tSeq, tIfS, tTest, tOp, tV, tC, tAsg, gName, gSub, tRet, tRetN, tCB, tCons, tNil, tDrop, tNext, tAnd, tOr, tNot, tAndV, tOrV, tNotV, tIf, tTru, tUn, tCallS, WE, tTup, tLst, tSl, tPart, tNoPart, tPar, tChain, tBM, tBM0, tM0, tM1, gTup, gCons, gNil, tInC, gC, gN, tCallK, tCst, tRevL, ok_str, ok_int, ok_bool, ok_tuple, ok_list, ok_dict, sub_str, sub_tup, sub_lst, sub_bool, sub_int, sub_dict, Bool.not_true, Bool.not_false, kisS_none, kisS_bool, kisS_int, kisS_str, kisS_list, kisS_tuple, kisS_dict, kisT_none, kisT_bool, kisT_int, kisT_str, kisT_list, kisT_tuple, kisT_dict, kisL_none, kisL_bool, kisL_int, kisL_str, kisL_list, kisL_tuple, kisL_dict, kisB_none, kisB_bool, kisB_int, kisB_str, kisB_list, kisB_tuple, kisB_dict, kisI_none, kisI_bool, kisI_int, kisI_str, kisI_list, kisI_tuple, kisI_dict, kisIB_none, kisIB_bool, kisIB_int, kisIB_str, kisIB_list, kisIB_tuple, kisIB_dict, kisD_none, kisD_bool, kisD_int, kisD_str, kisD_list, kisD_tuple, kisD_dict, rEqU, rNeU, rAdd_1, rAdd_2, rAdd_3, rAdd_4, rSub_1, rMul_1, rMul_2, rMul_3, rDiv_1, rMod_1, rPow_1, rNeg_1, rLt_1, rLe_1, rLe_2, rGt_1, rGe_1, rIs_1, rIs_2, rIsNot_1, rIsNot_2, rMem_1, rItem_1, rItem_2, rStore_1, rLen_1, rLen_2, rInt_1, rInt_2, rMax_1, rMin_1, rList_1, rTuple_1, rAbs_1, rIsi_1, rSlice_1, rSlice_2, mAppend_1, mExtend_1, mPop_1, mPop_2, mInsert_1, mUpper_1, rInT_1, eqR_rr, eqR_rs, eqR_ri, eqR_rb, eqR_rn, eqR_sr, eqR_ir, eqR_br, eqR_nr, isCol_l, isCol_t, isCol_d, isSeq_l, isSeq_t, iAny, wipe, tYes, List.isEmpty_nil, List.isEmpty_cons, truN_non, truN_bl, truN_int, tyN_non, tyN_bl, tyN_int, tyN_str, keyOf, scal_nn, scal_nb, scal_ni, scal_ns, scal_nr, scal_bn, scal_bb, scal_bs, scal_br, scal_in, scal_ii, scal_is, scal_ir, scal_sn, scal_sb, scal_si, scal_ss, scal_sr, scal_rn, scal_rb, scal_ri, scal_rs, scal_rr, decide_true, decide_false, List.map_cons, List.map_nil, List.set_cons_zero, List.set_cons_succ, List.getElem?_cons_zero, List.getElem?_cons_succ, List.getElem?_nil, exists_eq_left, exists_eq_left', V.bl.injEq, V.int.injEq, V.str.injEq, V.ref.injEq, if_true, if_false, ite_true, ite_false, Bool.false_eq_true, eq_self, true_and, and_true, decide_eq_true_eq]
    intro v7 H7 e7 L7
    cases L7 with
    | @lst a7 xs7 _ r7 A7 =>
    obtain rfl : xs7 = modeWs.map V.str := DrA.strs (ws := modeWs) A7
    have r7 := rdo_of (lst_new r7) (fun _ _ z => nomatch z)
    simp only [tSeq, tIfS, tTest, tOp, tV, tC, tAsg, gName, gSub, tRet, tRetN, tCB, tCons, tNil, tDrop, tNext, tAnd, tOr, tNot, tAndV, tOrV, tNotV, tIf, tTru, tUn, tCallS, WE, tTup, tLst, tSl, tPart, tNoPart, tPar, tChain, tBM, tBM0, tM0, tM1, gTup, gCons, gNil, tInC, gC, gN, tCallK, tCst, tRevL, ok_str, ok_int, ok_bool, ok_tuple, ok_list, ok_dict, sub_str, sub_tup, sub_lst, sub_bool, sub_int, sub_dict, Bool.not_true, Bool.not_false, kisS_none, kisS_bool, kisS_int, kisS_str, kisS_list, kisS_tuple, kisS_dict, kisT_none, kisT_bool, kisT_int, kisT_str, kisT_list, kisT_tuple, kisT_dict, kisL_none, kisL_bool, kisL_int, kisL_str, kisL_list, kisL_tuple, kisL_dict, kisB_none, kisB_bool, kisB_int, kisB_str, kisB_list, kisB_tuple, kisB_dict, kisI_none, kisI_bool, kisI_int, kisI_str, kisI_list, kisI_tuple, kisI_dict, kisIB_none, kisIB_bool, kisIB_int, kisIB_str, kisIB_list, kisIB_tuple, kisIB_dict, kisD_none, kisD_bool, kisD_int, kisD_str, kisD_list, kisD_tuple, kisD_dict, rEqU, rNeU, rAdd_1, rAdd_2, rAdd_3, rAdd_4, rSub_1, rMul_1, rMul_2, rMul_3, rDiv_1, rMod_1, rPow_1, rNeg_1, rLt_1, rLe_1, rLe_2, rGt_1, rGe_1, rIs_1, rIs_2, rIsNot_1, rIsNot_2, rMem_1, rItem_1, rItem_2, rStore_1, rLen_1, rLen_2, rInt_1, rInt_2, rMax_1, rMin_1, rList_1, rTuple_1, rAbs_1, rIsi_1, rSlice_1, rSlice_2, mAppend_1, mExtend_1, mPop_1, mPop_2, mInsert_1, mUpper_1, rInT_1, eqR_rr, eqR_rs, eqR_ri, eqR_rb, eqR_rn, eqR_sr, eqR_ir, eqR_br, eqR_nr, isCol_l, isCol_t, isCol_d, isSeq_l, isSeq_t, iAny, wipe, tYes, List.isEmpty_nil, List.isEmpty_cons, truN_non, truN_bl, truN_int, tyN_non, tyN_bl, tyN_int, tyN_str, keyOf, scal_nn, scal_nb, scal_ni, scal_ns, scal_nr, scal_bn, scal_bb, scal_bs, scal_br, scal_in, scal_ii, scal_is, scal_ir, scal_sn, scal_sb, scal_si, scal_ss, scal_sr, scal_rn, scal_rb, scal_ri, scal_rs, scal_rr, decide_true, decide_false, List.map_cons, List.map_nil, List.set_cons_zero, List.set_cons_succ, List.getElem?_cons_zero, List.getElem?_cons_succ, List.getElem?_nil, exists_eq_left, exists_eq_left', V.bl.injEq, V.int.injEq, V.str.injEq, V.ref.injEq, if_true, if_false, ite_true, ite_false, Bool.false_eq_true, eq_self, true_and, and_true, decide_eq_true_eq, r7]
    refine ⟨mul_ok (by decide), fun p hp => ?_⟩
    rw [show cutV (modeWs.map V.str) (some (2 * 1)) none = changeWs.map V.str by decide]
    have x8 : Ext H7 (upd H7 p (.lst (changeWs.map V.str))) := Ext.new hp
    have r8 : rdo (upd H7 p (.lst (changeWs.map V.str))) p = some (.lst (changeWs.map V.str)) := rdo_of upd_same (fun _ _ z => nomatch z)
    generalize upd H7 p (.lst (changeWs.map V.str)) = H8 at x8 r8 ⊢
    replace e6 := rdo_ext (rdo_ext e6 e7) x8
    have k := k _ ((x6.trans e7).trans x8)
    have a3 : atI [V.str "change", v1, v2, .str m, v4] 3 = some (.str m) := rfl
    have a4 : atI [V.str "change", v1, v2, .str m, v4] 4 = some v4 := rfl
    refine hN _ _ ?_; clear hN N
    simp only [tSeq, tIfS, tTest, tOp, tV, tC, tAsg, gName, gSub, tRet, tRetN, tCB, tCons, tNil, tDrop, tNext, tAnd, tOr, tNot, tAndV, tOrV, tNotV, tIf, tTru, tUn, tCallS, WE, tTup, tLst, tSl, tPart, tNoPart, tPar, tChain, tBM, tBM0, tM0, tM1, gTup, gCons, gNil, tInC, gC, gN, tCallK, tCst, tRevL, ok_str, ok_int, ok_bool, ok_tuple, ok_list, ok_dict, sub_str, sub_tup, sub_lst, sub_bool, sub_int, sub_dict, Bool.not_true, Bool.not_false, kisS_none, kisS_bool, kisS_int, kisS_str, kisS_list, kisS_tuple, kisS_dict, kisT_none, kisT_bool, kisT_int, kisT_str, kisT_list, kisT_tuple, kisT_dict, kisL_none, kisL_bool, kisL_int, kisL_str, kisL_list, kisL_tuple, kisL_dict, kisB_none, kisB_bool, kisB_int, kisB_str, kisB_list, kisB_tuple, kisB_dict, kisI_none, kisI_bool, kisI_int, kisI_str, kisI_list, kisI_tuple, kisI_dict, kisIB_none, kisIB_bool, kisIB_int, kisIB_str, kisIB_list, kisIB_tuple, kisIB_dict, kisD_none, kisD_bool, kisD_int, kisD_str, kisD_list, kisD_tuple, kisD_dict, rEqU, rNeU, rAdd_1, rAdd_2, rAdd_3, rAdd_4, rSub_1, rMul_1, rMul_2, rMul_3, rDiv_1, rMod_1, rPow_1, rNeg_1, rLt_1, rLe_1, rLe_2, rGt_1, rGe_1, rIs_1, rIs_2, rIsNot_1, rIsNot_2, rMem_1, rItem_1, rItem_2, rStore_1, rLen_1, rLen_2, rInt_1, rInt_2, rMax_1, rMin_1, rList_1, rTuple_1, rAbs_1, rIsi_1, rSlice_1, rSlice_2, mAppend_1, mExtend_1, mPop_1, mPop_2, mInsert_1, mUpper_1, rInT_1, eqR_rr, eqR_rs, eqR_ri, eqR_rb, eqR_rn, eqR_sr, eqR_ir, eqR_br, eqR_nr, isCol_l, isCol_t, isCol_d, isSeq_l, isSeq_t, iAny, wipe, tYes, List.isEmpty_nil, List.isEmpty_cons, truN_non, truN_bl, truN_int, tyN_non, tyN_bl, tyN_int, tyN_str, keyOf, scal_nn, scal_nb, scal_ni, scal_ns, scal_nr, scal_bn, scal_bb, scal_bs, scal_br, scal_in, scal_ii, scal_is, scal_ir, scal_sn, scal_sb, scal_si, scal_ss, scal_sr, scal_rn, scal_rb, scal_ri, scal_rs, scal_rr, decide_true, decide_false, List.map_cons, List.map_nil, List.set_cons_zero, List.set_cons_succ, List.getElem?_cons_zero, List.getElem?_cons_succ, List.getElem?_nil, exists_eq_left, exists_eq_left', V.bl.injEq, V.int.injEq, V.str.injEq, V.ref.injEq, if_true, if_false, ite_true, ite_false, Bool.false_eq_true, eq_self, true_and, and_true, decide_eq_true_eq, e6, a3, r8]
    refine ⟨⟨rfl, flat_str _⟩, ?_⟩
    rw [inV_str]
    refine ite2 (fun hq => ?_) (fun hq => ?_)
    · rw [show inS changeWs (.str m) = true from hq, Bool.true_and] at k
      refine (iff_of_eq (if_neg (show ¬ (((([t, n, PyData.str m, z] : List PyData).length : Nat) : Int) + 1 = 4) by show ¬ ((4 : Int) + 1 = 4); decide))).mpr ?_
      simp only [a4]
      refine ⟨by decide, by decide, v4, z, _, _, rfl, D4.ext (e7.trans x8), ?_⟩
      rw [isVal_eq]
      exact k
    · rw [show inS changeWs (.str m) = false from not_isT' hq, Bool.false_and] at k
      exact k
end
end Rm
namespace Rm
open PySem PySem.Spec L2
open PyProof.Rows hiding St
abbrev s_law_nym : Stmt := topS 28
theorem sc_law_nym : FnScope ["_law_tape_here", "_law_letters", "_law_found", "_law_k", "_law_signs", "_law_at"] ["_law_tape_here"] (defScope s_law_nym) := ⟨rfl, rfl, rfl, by decide +kernel, rfl, by decide +kernel, by decide +kernel⟩
def lowers : Str := "abcdefghijklmnopqrstuvwxyz"
def signs : Str := " !\"#$&'()*+,-./0123456789:;<=>?@ABCDEFGHIJKLMNOPQRSTUVWXYZ[\\]^_`{|}~"
theorem one_sign {t : Addr} {H : Hp} {Q : VK} {W : XK} {z : Str} (hT : TapeAt H t) (ha : asc z = true) (hl : 0 < z.length ∧ z.length ≤ 1000) (k : ∀ (s : Str) (H' : Hp), asc s = true → s.length = 1 → Tp t H H' → Q (.str s) H') : sp_law_one_of [.ref t, .str z] H Q W :=
  Or.inr ⟨t, z, rfl, hT, hl, fun c H' hc fr hT' => k _ H' (by
    rw [asc_iff]
    intro x hx
    rw [show x = c by simpa using hx]
    exact asc_iff.mp ha c hc) rfl (Tp.of_fr hT hT' fr)⟩
def sp_law_nym : Sp := fun vs H Q _ => ∃ t : Addr, vs = [.ref t] ∧ TapeAt H t ∧ ∀ (s : Str) (H' : Hp), asc s = true → s.length ≤ 20 → Tp t H H' → Q (.str s) H'
section
variable {P : Program} {w : World} {K : PySem.W.Frag} {mg : Str → Option Value} {base : Heap}
theorem ok_law_nym {f0 : Addr} {fd0 : FuncData} (F : At K mg "_law_nym" "_law_nym" s_law_nym ["_law_tape_here"] f0 fd0) (B : Bt mg)  (D_law_pick : Def P w K mg base "_law_pick" ["_law_tape_here", "_law_many"] 1 sp_law_pick) (D_law_one_of : Def P w K mg base "_law_one_of" ["_law_tape_here", "_law_items"] 2 sp_law_one_of) : Def P w K mg base "_law_nym" ["_law_tape_here"] 3 sp_law_nym := by
  refine okD F sc_law_nym (fun vs H Q E h => by obtain ⟨_, rfl, _⟩ := h; rfl) (fun cdv A outer s H vs Q E hr tk po h => ?_)
  have hu := hu_of hr
  have hu64 := hr.units
  have hc := (show (true : Bool) = true from rfl)
  have nd := sc_law_nym.nd
  refine ⟨_, (pss_cons (ps_set (i := 1) nd rfl (Or.inr rfl) pe_str)
      (pss_cons (ps_set (i := 2) nd rfl (Or.inl rfl) (pe_join pe_str (pe_lc (own := [("_law_k", 3)]) hc nd (pi_range1 (by rfl) B.range (pa_cons (pe_op opAdd pe_int (pe_fn D_law_pick (hr.mono (by decide)) tk (pa_cons (pn 0) (pa_cons pe_int pa_nil)))) pa_nil)) (blkOk_by (own := [("_law_k", 3)]) (N := ["_law_tape_here", "_law_letters", "_law_found", "_law_k", "_law_signs", "_law_at"]) (sc := defScope s_law_nym) (by decide +kernel)) (fun _ _ _ _ _ => (pg_name (i := 3) nd rfl (Or.inl rfl))) (fun _ _ _ _ _ => pts_nil) (fun _ _ _ _ _ => (pe_fn D_law_one_of (hr.mono (by decide)) tkF (pa_cons (pn 0) (pa_cons (pn 1) pa_nil)))))))
      (pss_cons (ps_set (i := 4) nd rfl (Or.inl rfl) pe_str)
      (pss_cons (ps_if (pt_cmpR opGt (pe_fn D_law_pick (hr.mono (by decide)) tk (pa_cons (pn 0) (pa_cons pe_int pa_nil))) pe_int (nomark _)) (pss_one (ps_ret (pn 2))) pss_nil)
      (pss_cons (ps_set (i := 5) nd rfl (Or.inl rfl) (pe_fn D_law_pick (hr.mono (by decide)) tk (pa_cons (pn 0) (pa_cons (pe_callB callLen (by rfl) B.len bt_len (pa_cons (pn 2) pa_nil)) pa_nil))))
      (pss_one (ps_ret (pe_op opAdd (pe_op opAdd (pe_slice slSlice (pn 2) po_none (po_some (pn 5))) (pe_fn D_law_one_of (hr.mono (by decide)) tk (pa_cons (pn 0) (pa_cons (pn 4) pa_nil)))) (pe_slice slSlice (pn 2) (po_some (pe_op opAdd (pn 5) pe_int)) po_none))))))))), ?_⟩
  clear hu hu64 hc nd tk po hr B D_law_pick D_law_one_of
  obtain ⟨t, rfl, hT, k⟩ := h
  rw [show L2.start _ _ = [some (.ref t), none, none, none, none, none] from rfl]
  refine sq fun N hN => ?_
  simp only [tSeq, tIfS, tTest, tOp, tV, tC, tAsg, gName, gSub, tRet, tRetN, tCB, tCons, tNil, tDrop, tNext, tAnd, tOr, tNot, tAndV, tOrV, tNotV, tIf, tTru, tUn, tCallS, WE, tTup, tLst, tSl, tPart, tNoPart, tPar, tChain, tBM, tBM0, tM0, tM1, gTup, gCons, gNil, tInC, gC, gN, tCallK, tCst, tRevL, ok_str, ok_int, ok_bool, ok_tuple, ok_list, ok_dict, sub_str, sub_tup, sub_lst, sub_bool, sub_int, sub_dict, Bool.not_true, Bool.not_false, kisS_none, kisS_bool, kisS_int, kisS_str, kisS_list, kisS_tuple, kisS_dict, kisT_none, kisT_bool, kisT_int, kisT_str, kisT_list, kisT_tuple, kisT_dict, kisL_none, kisL_bool, kisL_int, kisL_str, kisL_list, kisL_tuple, kisL_dict, kisB_none, kisB_bool, kisB_int, kisB_str, kisB_list, kisB_tuple, kisB_dict, kisI_none, kisI_bool, kisI_int, kisI_str, kisI_list, kisI_tuple, kisI_dict, kisIB_none, kisIB_bool, kisIB_int, kisIB_str, kisIB_list, kisIB_tuple, kisIB_dict, kisD_none, kisD_bool, kisD_int, kisD_str, kisD_list, kisD_tuple, kisD_dict, rEqU, rNeU, rAdd_1, rAdd_2, rAdd_3, rAdd_4, rSub_1, rMul_1, rMul_2, rMul_3, rDiv_1, rMod_1, rPow_1, rNeg_1, rLt_1, rLe_1, rLe_2, rGt_1, rGe_1, rIs_1, rIs_2, rIsNot_1, rIsNot_2, rMem_1, rItem_1, rItem_2, rStore_1, rLen_1, rLen_2, rInt_1, rInt_2, rMax_1, rMin_1, rList_1, rTuple_1, rAbs_1, rIsi_1, rSlice_1, rSlice_2, mAppend_1, mExtend_1, mPop_1, mPop_2, mInsert_1, mUpper_1, rInT_1, eqR_rr, eqR_rs, eqR_ri, eqR_rb, eqR_rn, eqR_sr, eqR_ir, eqR_br, eqR_nr, isCol_l, isCol_t, isCol_d, isSeq_l, isSeq_t, iAny, wipe, tYes, List.isEmpty_nil, List.isEmpty_cons, truN_non, truN_bl, truN_int, tyN_non, tyN_bl, tyN_int, tyN_str, keyOf, scal_nn, scal_nb, scal_ni, scal_ns, scal_nr, scal_bn, scal_bb, scal_bs, scal_br, scal_in, scal_ii, scal_is, scal_ir, scal_sn, scal_sb, scal_si, scal_ss, scal_sr, scal_rn, scal_rb, scal_ri, scal_rs, scal_rr, decide_true, decide_false, List.map_cons, List.map_nil, List.set_cons_zero, List.set_cons_succ, List.getElem?_cons_zero, List.getElem?_cons_succ, List.getElem?_nil, exists_eq_left, exists_eq_left', V.bl.injEq, V.int.injEq, V.str.injEq, V.ref.injEq, if_true, if_false, ite_true, ite_false, Bool.false_eq_true, eq_self, true_and, and_true, decide_eq_true_eq]
  refine hN _ _ ?_; clear hN N
  refine sq fun N hN => ?_
  simp only [tSeq, tIfS, tTest, tOp, tV, tC, tAsg, gName, gSub, tRet, tRetN, tCB, tCons, tNil, tDrop, tNext, tAnd, tOr, tNot, tAndV, tOrV, tNotV, tIf, tTru, tUn, tCallS, WE, tTup, tLst, tSl, tPart, tNoPart, tPar, tChain, tBM, tBM0, tM0, tM1, gTup, gCons, gNil, tInC, gC, gN, tCallK, tCst, tRevL, ok_str, ok_int, ok_bool, ok_tuple, ok_list, ok_dict, sub_str, sub_tup, sub_lst, sub_bool, sub_int, sub_dict, Bool.not_true, Bool.not_false, kisS_none, kisS_bool, kisS_int, kisS_str, kisS_list, kisS_tuple, kisS_dict, kisT_none, kisT_bool, kisT_int, kisT_str, kisT_list, kisT_tuple, kisT_dict, kisL_none, kisL_bool, kisL_int, kisL_str, kisL_list, kisL_tuple, kisL_dict, kisB_none, kisB_bool, kisB_int, kisB_str, kisB_list, kisB_tuple, kisB_dict, kisI_none, kisI_bool, kisI_int, kisI_str, kisI_list, kisI_tuple, kisI_dict, kisIB_none, kisIB_bool, kisIB_int, kisIB_str, kisIB_list, kisIB_tuple, kisIB_dict, kisD_none, kisD_bool, kisD_int, kisD_str, kisD_list, kisD_tuple, kisD_dict, rEqU, rNeU, rAdd_1, rAdd_2, rAdd_3, rAdd_4, rSub_1, rMul_1, rMul_2, rMul_3, rDiv_1, rMod_1, rPow_1, rNeg_1, rLt_1, rLe_1, rLe_2, rGt_1, rGe_1, rIs_1, rIs_2, rIsNot_1, rIsNot_2, rMem_1, rItem_1, rItem_2, rStore_1, rLen_1, rLen_2, rInt_1, rInt_2, rMax_1, rMin_1, rList_1, rTuple_1, rAbs_1, rIsi_1, rSlice_1, rSlice_2, mAppend_1, mExtend_1, mPop_1, mPop_2, mInsert_1, mUpper_1, rInT_1, eqR_rr, eqR_rs, eqR_ri, eqR_rb, eqR_rn, eqR_sr, eqR_ir, eqR_br, eqR_nr, isCol_l, isCol_t, isCol_d, isSeq_l, isSeq_t, iAny, wipe, tYes, List.isEmpty_nil, List.isEmpty_cons, truN_non, truN_bl, truN_int, tyN_non, tyN_bl, tyN_int, tyN_str, keyOf, scal_nn, scal_nb, scal_ni, scal_ns, scal_nr, scal_bn, scal_bb, scal_bs, scal_br, scal_in, scal_ii, scal_is, scal_ir, scal_sn, scal_sb, scal_si, scal_ss, scal_sr, scal_rn, scal_rb, scal_ri, scal_rs, scal_rr, decide_true, decide_false, List.map_cons, List.map_nil, List.set_cons_zero, List.set_cons_succ, List.getElem?_cons_zero, List.getElem?_cons_succ, List.getElem?_nil, exists_eq_left, exists_eq_left', V.bl.injEq, V.int.injEq, V.str.injEq, V.ref.injEq, if_true, if_false, ite_true, ite_false, Bool.false_eq_true, eq_self, true_and, and_true, decide_eq_true_eq]
  refine ⟨⟨_, rfl⟩, ?_⟩
  refine ⟨t, _, rfl, hT, ⟨by decide, by decide⟩, fun j H1 hj0 hj1 f1 hT1 => ?_⟩
  have p1 := Tp.of_fr hT hT1 f1
  refine ⟨1 + j, rfl, by omega, by omega, ?_⟩
  obtain ⟨n, rfl⟩ := Int.eq_ofNat_of_zero_le hj0
  rw [show ((1 : Int) + (n : Int)).toNat = n + 1 by omega]
  refine fun D hD => ?_
  refine lc_it walk_range (fun i H' => ∃ ws : List Str, LstI t H D H' (ws.map V.str) (ws.map PyData.str) ∧ ws.length = i ∧ (∀ w ∈ ws, asc w = true ∧ w.length = 1)) ⟨[], LstI.mk' p1 hD .nil, rfl, fun w hw => by cases hw⟩ (fun _ _ _ _ => trivial) (fun i x H2 H3 hi p y => ?_) (fun H2 p => ?_)
  · obtain ⟨rfl, rfl⟩ := y
    obtain ⟨ws, I, hlen, hw⟩ := p
    simp only [tSeq, tIfS, tTest, tOp, tV, tC, tAsg, gName, gSub, tRet, tRetN, tCB, tCons, tNil, tDrop, tNext, tAnd, tOr, tNot, tAndV, tOrV, tNotV, tIf, tTru, tUn, tCallS, WE, tTup, tLst, tSl, tPart, tNoPart, tPar, tChain, tBM, tBM0, tM0, tM1, gTup, gCons, gNil, tInC, gC, gN, tCallK, tCst, tRevL, ok_str, ok_int, ok_bool, ok_tuple, ok_list, ok_dict, sub_str, sub_tup, sub_lst, sub_bool, sub_int, sub_dict, Bool.not_true, Bool.not_false, kisS_none, kisS_bool, kisS_int, kisS_str, kisS_list, kisS_tuple, kisS_dict, kisT_none, kisT_bool, kisT_int, kisT_str, kisT_list, kisT_tuple, kisT_dict, kisL_none, kisL_bool, kisL_int, kisL_str, kisL_list, kisL_tuple, kisL_dict, kisB_none, kisB_bool, kisB_int, kisB_str, kisB_list, kisB_tuple, kisB_dict, kisI_none, kisI_bool, kisI_int, kisI_str, kisI_list, kisI_tuple, kisI_dict, kisIB_none, kisIB_bool, kisIB_int, kisIB_str, kisIB_list, kisIB_tuple, kisIB_dict, kisD_none, kisD_bool, kisD_int, kisD_str, kisD_list, kisD_tuple, kisD_dict, rEqU, rNeU, rAdd_1, rAdd_2, rAdd_3, rAdd_4, rSub_1, rMul_1, rMul_2, rMul_3, rDiv_1, rMod_1, rPow_1, rNeg_1, rLt_1, rLe_1, rLe_2, rGt_1, rGe_1, rIs_1, rIs_2, rIsNot_1, rIsNot_2, rMem_1, rItem_1, rItem_2, rStore_1, rLen_1, rLen_2, rInt_1, rInt_2, rMax_1, rMin_1, rList_1, rTuple_1, rAbs_1, rIsi_1, rSlice_1, rSlice_2, mAppend_1, mExtend_1, mPop_1, mPop_2, mInsert_1, mUpper_1, rInT_1, eqR_rr, eqR_rs, eqR_ri, eqR_rb, eqR_rn, eqR_sr, eqR_ir, eqR_br, eqR_nr, isCol_l, isCol_t, isCol_d, isSeq_l, isSeq_t, iAny, wipe, tYes, List.isEmpty_nil, List.isEmpty_cons, truN_non, truN_bl, truN_int, tyN_non, tyN_bl, tyN_int, tyN_str, keyOf, scal_nn, scal_nb, scal_ni, scal_ns, scal_nr, scal_bn, scal_bb, scal_bs, scal_br, scal_in, scal_ii, scal_is, scal_ir, scal_sn, scal_sb, scal_si, scal_ss, scal_sr, scal_rn, scal_rb, scal_ri, scal_rs, scal_rr, decide_true, decide_false, List.map_cons, List.map_nil, List.set_cons_zero, List.set_cons_succ, List.getElem?_cons_zero, List.getElem?_cons_succ, List.getElem?_nil, exists_eq_left, exists_eq_left', V.bl.injEq, V.int.injEq, V.str.injEq, V.ref.injEq, if_true, if_false, ite_true, ite_false, Bool.false_eq_true, eq_self, true_and, and_true, decide_eq_true_eq]
    refine one_sign I.p.b (by decide) (by decide) fun s H4 hs1 hs2 p4 => ?_
    have I4 := I.step p4
    refine ⟨_, I4.at_, by rw [List.length_map]; exact Nat.lt_of_lt_of_le (show ws.length < 1000 by omega) (by decide), ws ++ [s], ?_, by rw [List.length_append, hlen]; rfl, mem_app hw ⟨hs1, hs2⟩⟩
    rw [List.map_append, List.map_append]
    exact I4.put (I4.A.append (.cons (.str s) .nil))
  · obtain ⟨ws, I, hlen, hw⟩ := p
    obtain ⟨ja, jl⟩ := join_asc ws hw
    refine ⟨_, D, ws, rfl, rfl, Or.inl (rdo_l I.rd), by rw [sum_ones ws fun w h => (hw w h).2]; show ws.length + ws.length * 0 ≤ _; omega, ?_⟩
    have p3 := I.p
    clear I hD p1 f1 hT1
    change N [_, _, some (V.str (Txt.join Str.empty ws)), _, _, _] _
    generalize Txt.join Str.empty ws = s at ja jl ⊢
    refine hN _ _ ?_; clear hN N
    refine sq fun N hN => ?_
    simp only [tSeq, tIfS, tTest, tOp, tV, tC, tAsg, gName, gSub, tRet, tRetN, tCB, tCons, tNil, tDrop, tNext, tAnd, tOr, tNot, tAndV, tOrV, tNotV, tIf, tTru, tUn, tCallS, WE, tTup, tLst, tSl, tPart, tNoPart, tPar, tChain, tBM, tBM0, tM0, tM1, gTup, gCons, gNil, tInC, gC, gN, tCallK, tCst, tRevL, ok_str, ok_int, ok_bool, ok_tuple, ok_list, ok_dict, sub_str, sub_tup, sub_lst, sub_bool, sub_int, sub_dict, Bool.not_true, Bool.not_false, kisS_none, kisS_bool, kisS_int, kisS_str, kisS_list, kisS_tuple, kisS_dict, kisT_none, kisT_bool, kisT_int, kisT_str, kisT_list, kisT_tuple, kisT_dict, kisL_none, kisL_bool, kisL_int, kisL_str, kisL_list, kisL_tuple, kisL_dict, kisB_none, kisB_bool, kisB_int, kisB_str, kisB_list, kisB_tuple, kisB_dict, kisI_none, kisI_bool, kisI_int, kisI_str, kisI_list, kisI_tuple, kisI_dict, kisIB_none, kisIB_bool, kisIB_int, kisIB_str, kisIB_list, kisIB_tuple, kisIB_dict, kisD_none, kisD_bool, kisD_int, kisD_str, kisD_list, kisD_tuple, kisD_dict, rEqU, rNeU, rAdd_1, rAdd_2, rAdd_3, rAdd_4, rSub_1, rMul_1, rMul_2, rMul_3, rDiv_1, rMod_1, rPow_1, rNeg_1, rLt_1, rLe_1, rLe_2, rGt_1, rGe_1, rIs_1, rIs_2, rIsNot_1, rIsNot_2, rMem_1, rItem_1, rItem_2, rStore_1, rLen_1, rLen_2, rInt_1, rInt_2, rMax_1, rMin_1, rList_1, rTuple_1, rAbs_1, rIsi_1, rSlice_1, rSlice_2, mAppend_1, mExtend_1, mPop_1, mPop_2, mInsert_1, mUpper_1, rInT_1, eqR_rr, eqR_rs, eqR_ri, eqR_rb, eqR_rn, eqR_sr, eqR_ir, eqR_br, eqR_nr, isCol_l, isCol_t, isCol_d, isSeq_l, isSeq_t, iAny, wipe, tYes, List.isEmpty_nil, List.isEmpty_cons, truN_non, truN_bl, truN_int, tyN_non, tyN_bl, tyN_int, tyN_str, keyOf, scal_nn, scal_nb, scal_ni, scal_ns, scal_nr, scal_bn, scal_bb, scal_bs, scal_br, scal_in, scal_ii, scal_is, scal_ir, scal_sn, scal_sb, scal_si, scal_ss, scal_sr, scal_rn, scal_rb, scal_ri, scal_rs, scal_rr, decide_true, decide_false, List.map_cons, List.map_nil, List.set_cons_zero, List.set_cons_succ, List.getElem?_cons_zero, List.getElem?_cons_succ, List.getElem?_nil, exists_eq_left, exists_eq_left', V.bl.injEq, V.int.injEq, V.str.injEq, V.ref.injEq, if_true, if_false, ite_true, ite_false, Bool.false_eq_true, eq_self, true_and, and_true, decide_eq_true_eq]
    refine hN _ _ ?_; clear hN N
    refine sq fun N hN => ?_
    simp only [tSeq, tIfS, tTest, tOp, tV, tC, tAsg, gName, gSub, tRet, tRetN, tCB, tCons, tNil, tDrop, tNext, tAnd, tOr, tNot, tAndV, tOrV, tNotV, tIf, tTru, tUn, tCallS, WE, tTup, tLst, tSl, tPart, tNoPart, tPar, tChain, tBM, tBM0, tM0, tM1, gTup, gCons, gNil, tInC, gC, gN, tCallK, tCst, tRevL, ok_str, ok_int, ok_bool, ok_tuple, ok_list, ok_dict, sub_str, sub_tup, sub_lst, sub_bool, sub_int, sub_dict, Bool.not_true, Bool.not_false, kisS_none, kisS_bool, kisS_int, kisS_str, kisS_list, kisS_tuple, kisS_dict, kisT_none, kisT_bool, kisT_int, kisT_str, kisT_list, kisT_tuple, kisT_dict, kisL_none, kisL_bool, kisL_int, kisL_str, kisL_list, kisL_tuple, kisL_dict, kisB_none, kisB_bool, kisB_int, kisB_str, kisB_list, kisB_tuple, kisB_dict, kisI_none, kisI_bool, kisI_int, kisI_str, kisI_list, kisI_tuple, kisI_dict, kisIB_none, kisIB_bool, kisIB_int, kisIB_str, kisIB_list, kisIB_tuple, kisIB_dict, kisD_none, kisD_bool, kisD_int, kisD_str, kisD_list, kisD_tuple, kisD_dict, rEqU, rNeU, rAdd_1, rAdd_2, rAdd_3, rAdd_4, rSub_1, rMul_1, rMul_2, rMul_3, rDiv_1, rMod_1, rPow_1, rNeg_1, rLt_1, rLe_1, rLe_2, rGt_1, rGe_1, rIs_1, rIs_2, rIsNot_1, rIsNot_2, rMem_1, rItem_1, rItem_2, rStore_1, rLen_1, rLen_2, rInt_1, rInt_2, rMax_1, rMin_1, rList_1, rTuple_1, rAbs_1, rIsi_1, rSlice_1, rSlice_2, mAppend_1, mExtend_1, mPop_1, mPop_2, mInsert_1, mUpper_1, rInT_1, eqR_rr, eqR_rs, eqR_ri, eqR_rb, eqR_rn, eqR_sr, eqR_ir, eqR_br, eqR_nr, isCol_l, isCol_t, isCol_d, isSeq_l, isSeq_t, iAny, wipe, tYes, List.isEmpty_nil, List.isEmpty_cons, truN_non, truN_bl, truN_int, tyN_non, tyN_bl, tyN_int, tyN_str, keyOf, scal_nn, scal_nb, scal_ni, scal_ns, scal_nr, scal_bn, scal_bb, scal_bs, scal_br, scal_in, scal_ii, scal_is, scal_ir, scal_sn, scal_sb, scal_si, scal_ss, scal_sr, scal_rn, scal_rb, scal_ri, scal_rs, scal_rr, decide_true, decide_false, List.map_cons, List.map_nil, List.set_cons_zero, List.set_cons_succ, List.getElem?_cons_zero, List.getElem?_cons_succ, List.getElem?_nil, exists_eq_left, exists_eq_left', V.bl.injEq, V.int.injEq, V.str.injEq, V.ref.injEq, if_true, if_false, ite_true, ite_false, Bool.false_eq_true, eq_self, true_and, and_true, decide_eq_true_eq]
    refine ⟨t, _, rfl, p3.b, ⟨by decide, by decide⟩, fun j H4 hj0' hj1' f4 hT4 => ?_⟩
    have p4 := p3.trans (Tp.of_fr p3.b hT4 f4)
    simp only [tSeq, tIfS, tTest, tOp, tV, tC, tAsg, gName, gSub, tRet, tRetN, tCB, tCons, tNil, tDrop, tNext, tAnd, tOr, tNot, tAndV, tOrV, tNotV, tIf, tTru, tUn, tCallS, WE, tTup, tLst, tSl, tPart, tNoPart, tPar, tChain, tBM, tBM0, tM0, tM1, gTup, gCons, gNil, tInC, gC, gN, tCallK, tCst, tRevL, ok_str, ok_int, ok_bool, ok_tuple, ok_list, ok_dict, sub_str, sub_tup, sub_lst, sub_bool, sub_int, sub_dict, Bool.not_true, Bool.not_false, kisS_none, kisS_bool, kisS_int, kisS_str, kisS_list, kisS_tuple, kisS_dict, kisT_none, kisT_bool, kisT_int, kisT_str, kisT_list, kisT_tuple, kisT_dict, kisL_none, kisL_bool, kisL_int, kisL_str, kisL_list, kisL_tuple, kisL_dict, kisB_none, kisB_bool, kisB_int, kisB_str, kisB_list, kisB_tuple, kisB_dict, kisI_none, kisI_bool, kisI_int, kisI_str, kisI_list, kisI_tuple, kisI_dict, kisIB_none, kisIB_bool, kisIB_int, kisIB_str, kisIB_list, kisIB_tuple, kisIB_dict, kisD_none, kisD_bool, kisD_int, kisD_str, kisD_list, kisD_tuple, kisD_dict, rEqU, rNeU, rAdd_1, rAdd_2, rAdd_3, rAdd_4, rSub_1, rMul_1, rMul_2, rMul_3, rDiv_1, rMod_1, rPow_1, rNeg_1, rLt_1, rLe_1, rLe_2, rGt_1, rGe_1, rIs_1, rIs_2, rIsNot_1, rIsNot_2, rMem_1, rItem_1, rItem_2, rStore_1, rLen_1, rLen_2, rInt_1, rInt_2, rMax_1, rMin_1, rList_1, rTuple_1, rAbs_1, rIsi_1, rSlice_1, rSlice_2, mAppend_1, mExtend_1, mPop_1, mPop_2, mInsert_1, mUpper_1, rInT_1, eqR_rr, eqR_rs, eqR_ri, eqR_rb, eqR_rn, eqR_sr, eqR_ir, eqR_br, eqR_nr, isCol_l, isCol_t, isCol_d, isSeq_l, isSeq_t, iAny, wipe, tYes, List.isEmpty_nil, List.isEmpty_cons, truN_non, truN_bl, truN_int, tyN_non, tyN_bl, tyN_int, tyN_str, keyOf, scal_nn, scal_nb, scal_ni, scal_ns, scal_nr, scal_bn, scal_bb, scal_bs, scal_br, scal_in, scal_ii, scal_is, scal_ir, scal_sn, scal_sb, scal_si, scal_ss, scal_sr, scal_rn, scal_rb, scal_ri, scal_rs, scal_rr, decide_true, decide_false, List.map_cons, List.map_nil, List.set_cons_zero, List.set_cons_succ, List.getElem?_cons_zero, List.getElem?_cons_succ, List.getElem?_nil, exists_eq_left, exists_eq_left', V.bl.injEq, V.int.injEq, V.str.injEq, V.ref.injEq, if_true, if_false, ite_true, ite_false, Bool.false_eq_true, eq_self, true_and, and_true, decide_eq_true_eq]
    refine ite2 (fun _ => k s H4 ja (by omega) p4) (fun _ => ?_)
    refine hN _ _ ?_; clear hN N
    refine sq fun N hN => ?_
    simp only [tSeq, tIfS, tTest, tOp, tV, tC, tAsg, gName, gSub, tRet, tRetN, tCB, tCons, tNil, tDrop, tNext, tAnd, tOr, tNot, tAndV, tOrV, tNotV, tIf, tTru, tUn, tCallS, WE, tTup, tLst, tSl, tPart, tNoPart, tPar, tChain, tBM, tBM0, tM0, tM1, gTup, gCons, gNil, tInC, gC, gN, tCallK, tCst, tRevL, ok_str, ok_int, ok_bool, ok_tuple, ok_list, ok_dict, sub_str, sub_tup, sub_lst, sub_bool, sub_int, sub_dict, Bool.not_true, Bool.not_false, kisS_none, kisS_bool, kisS_int, kisS_str, kisS_list, kisS_tuple, kisS_dict, kisT_none, kisT_bool, kisT_int, kisT_str, kisT_list, kisT_tuple, kisT_dict, kisL_none, kisL_bool, kisL_int, kisL_str, kisL_list, kisL_tuple, kisL_dict, kisB_none, kisB_bool, kisB_int, kisB_str, kisB_list, kisB_tuple, kisB_dict, kisI_none, kisI_bool, kisI_int, kisI_str, kisI_list, kisI_tuple, kisI_dict, kisIB_none, kisIB_bool, kisIB_int, kisIB_str, kisIB_list, kisIB_tuple, kisIB_dict, kisD_none, kisD_bool, kisD_int, kisD_str, kisD_list, kisD_tuple, kisD_dict, rEqU, rNeU, rAdd_1, rAdd_2, rAdd_3, rAdd_4, rSub_1, rMul_1, rMul_2, rMul_3, rDiv_1, rMod_1, rPow_1, rNeg_1, rLt_1, rLe_1, rLe_2, rGt_1, rGe_1, rIs_1, rIs_2, rIsNot_1, rIsNot_2, rMem_1, rItem_1, rItem_2, rStore_1, rLen_1, rLen_2, rInt_1, rInt_2, rMax_1, rMin_1, rList_1, rTuple_1, rAbs_1, rIsi_1, rSlice_1, rSlice_2, mAppend_1, mExtend_1, mPop_1, mPop_2, mInsert_1, mUpper_1, rInT_1, eqR_rr, eqR_rs, eqR_ri, eqR_rb, eqR_rn, eqR_sr, eqR_ir, eqR_br, eqR_nr, isCol_l, isCol_t, isCol_d, isSeq_l, isSeq_t, iAny, wipe, tYes, List.isEmpty_nil, List.isEmpty_cons, truN_non, truN_bl, truN_int, tyN_non, tyN_bl, tyN_int, tyN_str, keyOf, scal_nn, scal_nb, scal_ni, scal_ns, scal_nr, scal_bn, scal_bb, scal_bs, scal_br, scal_in, scal_ii, scal_is, scal_ir, scal_sn, scal_sb, scal_si, scal_ss, scal_sr, scal_rn, scal_rb, scal_ri, scal_rs, scal_rr, decide_true, decide_false, List.map_cons, List.map_nil, List.set_cons_zero, List.set_cons_succ, List.getElem?_cons_zero, List.getElem?_cons_succ, List.getElem?_nil, exists_eq_left, exists_eq_left', V.bl.injEq, V.int.injEq, V.str.injEq, V.ref.injEq, if_true, if_false, ite_true, ite_false, Bool.false_eq_true, eq_self, true_and, and_true, decide_eq_true_eq]
    have big : 1000 ≤ sizeLine := by decide
    refine ⟨by omega, t, _, rfl, p4.b, ⟨by omega, by omega⟩, fun i H5 hi0 hi1 f5 hT5 => ?_⟩
    have p5 := p4.trans (Tp.of_fr p4.b hT5 f5)
    refine hN _ _ ?_; clear hN N
    simp only [tSeq, tIfS, tTest, tOp, tV, tC, tAsg, gName, gSub, tRet, tRetN, tCB, tCons, tNil, tDrop, tNext, tAnd, tOr, tNot, tAndV, tOrV, tNotV, tIf, tTru, tUn, tCallS, WE, tTup, tLst, tSl, tPart, tNoPart, tPar, tChain, tBM, tBM0, tM0, tM1, gTup, gCons, gNil, tInC, gC, gN, tCallK, tCst, tRevL, ok_str, ok_int, ok_bool, ok_tuple, ok_list, ok_dict, sub_str, sub_tup, sub_lst, sub_bool, sub_int, sub_dict, Bool.not_true, Bool.not_false, kisS_none, kisS_bool, kisS_int, kisS_str, kisS_list, kisS_tuple, kisS_dict, kisT_none, kisT_bool, kisT_int, kisT_str, kisT_list, kisT_tuple, kisT_dict, kisL_none, kisL_bool, kisL_int, kisL_str, kisL_list, kisL_tuple, kisL_dict, kisB_none, kisB_bool, kisB_int, kisB_str, kisB_list, kisB_tuple, kisB_dict, kisI_none, kisI_bool, kisI_int, kisI_str, kisI_list, kisI_tuple, kisI_dict, kisIB_none, kisIB_bool, kisIB_int, kisIB_str, kisIB_list, kisIB_tuple, kisIB_dict, kisD_none, kisD_bool, kisD_int, kisD_str, kisD_list, kisD_tuple, kisD_dict, rEqU, rNeU, rAdd_1, rAdd_2, rAdd_3, rAdd_4, rSub_1, rMul_1, rMul_2, rMul_3, rDiv_1, rMod_1, rPow_1, rNeg_1, rLt_1, rLe_1, rLe_2, rGt_1, rGe_1, rIs_1, rIs_2, rIsNot_1, rIsNot_2, rMem_1, rItem_1, rItem_2, rStore_1, rLen_1, rLen_2, rInt_1, rInt_2, rMax_1, rMin_1, rList_1, rTuple_1, rAbs_1, rIsi_1, rSlice_1, rSlice_2, mAppend_1, mExtend_1, mPop_1, mPop_2, mInsert_1, mUpper_1, rInT_1, eqR_rr, eqR_rs, eqR_ri, eqR_rb, eqR_rn, eqR_sr, eqR_ir, eqR_br, eqR_nr, isCol_l, isCol_t, isCol_d, isSeq_l, isSeq_t, iAny, wipe, tYes, List.isEmpty_nil, List.isEmpty_cons, truN_non, truN_bl, truN_int, tyN_non, tyN_bl, tyN_int, tyN_str, keyOf, scal_nn, scal_nb, scal_ni, scal_ns, scal_nr, scal_bn, scal_bb, scal_bs, scal_br, scal_in, scal_ii, scal_is, scal_ir, scal_sn, scal_sb, scal_si, scal_ss, scal_sr, scal_rn, scal_rb, scal_ri, scal_rs, scal_rr, decide_true, decide_false, List.map_cons, List.map_nil, List.set_cons_zero, List.set_cons_succ, List.getElem?_cons_zero, List.getElem?_cons_succ, List.getElem?_nil, exists_eq_left, exists_eq_left', V.bl.injEq, V.int.injEq, V.str.injEq, V.ref.injEq, if_true, if_false, ite_true, ite_false, Bool.false_eq_true, eq_self, true_and, and_true, decide_eq_true_eq]
    refine ⟨by omega, ?_⟩
    refine one_sign p5.b (by decide) (by decide) fun c H6 hc1 hc2 p6 => ?_
    have c1 := cut_le s none (some i)
    have c2 := cut_le s (some (i + 1)) none
    simp only [tSeq, tIfS, tTest, tOp, tV, tC, tAsg, gName, gSub, tRet, tRetN, tCB, tCons, tNil, tDrop, tNext, tAnd, tOr, tNot, tAndV, tOrV, tNotV, tIf, tTru, tUn, tCallS, WE, tTup, tLst, tSl, tPart, tNoPart, tPar, tChain, tBM, tBM0, tM0, tM1, gTup, gCons, gNil, tInC, gC, gN, tCallK, tCst, tRevL, ok_str, ok_int, ok_bool, ok_tuple, ok_list, ok_dict, sub_str, sub_tup, sub_lst, sub_bool, sub_int, sub_dict, Bool.not_true, Bool.not_false, kisS_none, kisS_bool, kisS_int, kisS_str, kisS_list, kisS_tuple, kisS_dict, kisT_none, kisT_bool, kisT_int, kisT_str, kisT_list, kisT_tuple, kisT_dict, kisL_none, kisL_bool, kisL_int, kisL_str, kisL_list, kisL_tuple, kisL_dict, kisB_none, kisB_bool, kisB_int, kisB_str, kisB_list, kisB_tuple, kisB_dict, kisI_none, kisI_bool, kisI_int, kisI_str, kisI_list, kisI_tuple, kisI_dict, kisIB_none, kisIB_bool, kisIB_int, kisIB_str, kisIB_list, kisIB_tuple, kisIB_dict, kisD_none, kisD_bool, kisD_int, kisD_str, kisD_list, kisD_tuple, kisD_dict, rEqU, rNeU, rAdd_1, rAdd_2, rAdd_3, rAdd_4, rSub_1, rMul_1, rMul_2, rMul_3, rDiv_1, rMod_1, rPow_1, rNeg_1, rLt_1, rLe_1, rLe_2, rGt_1, rGe_1, rIs_1, rIs_2, rIsNot_1, rIsNot_2, rMem_1, rItem_1, rItem_2, rStore_1, rLen_1, rLen_2, rInt_1, rInt_2, rMax_1, rMin_1, rList_1, rTuple_1, rAbs_1, rIsi_1, rSlice_1, rSlice_2, mAppend_1, mExtend_1, mPop_1, mPop_2, mInsert_1, mUpper_1, rInT_1, eqR_rr, eqR_rs, eqR_ri, eqR_rb, eqR_rn, eqR_sr, eqR_ir, eqR_br, eqR_nr, isCol_l, isCol_t, isCol_d, isSeq_l, isSeq_t, iAny, wipe, tYes, List.isEmpty_nil, List.isEmpty_cons, truN_non, truN_bl, truN_int, tyN_non, tyN_bl, tyN_int, tyN_str, keyOf, scal_nn, scal_nb, scal_ni, scal_ns, scal_nr, scal_bn, scal_bb, scal_bs, scal_br, scal_in, scal_ii, scal_is, scal_ir, scal_sn, scal_sb, scal_si, scal_ss, scal_sr, scal_rn, scal_rb, scal_ri, scal_rs, scal_rr, decide_true, decide_false, List.map_cons, List.map_nil, List.set_cons_zero, List.set_cons_succ, List.getElem?_cons_zero, List.getElem?_cons_succ, List.getElem?_nil, exists_eq_left, exists_eq_left', V.bl.injEq, V.int.injEq, V.str.injEq, V.ref.injEq, if_true, if_false, ite_true, ite_false, Bool.false_eq_true, eq_self, true_and, and_true, decide_eq_true_eq]
    refine ⟨by omega, by omega, by rw [strLen_append]; omega, ?_⟩
    exact k _ H6 (asc_append (asc_append (asc_cut ja) hc1) (asc_cut ja)) (by rw [strLen_append, strLen_append]; omega) (p5.trans p6)
end
end Rm
namespace Rm
open PySem PySem.Spec L2
open PyProof.Rows hiding St
abbrev s_law_good : Stmt := topS 29
theorem sc_law_good : FnScope ["_law_tape_here", "_law_word", "_law_found", "_law_values"] ["_law_tape_here"] (defScope s_law_good) := ⟨rfl, rfl, rfl, by decide +kernel, rfl, by decide +kernel, by decide +kernel⟩
def okItemB (d : PyData) : Bool := fineB 3000 3 d && (match d with
  | .str s => asc s && decide (s.length ≤ 20)
  | _ => true)
theorem okItem_fine {d : PyData} (h : okItemB d = true) : Fine 3000 3 d := (Bool.and_eq_true_iff.mp h).1
theorem okItem_str {s : Str} (h : okItemB (.str s) = true) : asc s = true ∧ s.length ≤ 20 := by
  have := Bool.and_eq_true_iff.mp (Bool.and_eq_true_iff.mp h).2
  exact ⟨this.1, of_decide_eq_true this.2⟩
theorem okItem_mk {s : Str} (h1 : asc s = true) (h2 : s.length ≤ 20) : okItemB (.str s) = true := by
  have e : fineB 3000 3 (.str s) = true := fine_asc h1 (by omega)
  simp only [okItemB, e, h1, decide_eq_true h2]
  rfl
/-- what is made of an operation by its form -/
def goodD (ds : List PyData) : Prop := (0 < ds.length ∧ ds.length ≤ 5) ∧ (∃ w r, ds = .str w :: r) ∧ ∀ d ∈ ds, okItemB d = true
def sp_law_good : Sp := fun vs H Q _ => ∃ t : Addr, vs = [.ref t] ∧ TapeAt H t ∧ ∀ (l : Addr) (xs : List V) (ds : List PyData) (H' : Hp), LstI t H l H' xs ds → goodD ds → Q (.ref l) H'
section
variable {P : Program} {w : World} {K : PySem.W.Frag} {mg : Str → Option Value} {base : Heap}
theorem ok_law_good {f0 : Addr} {fd0 : FuncData} (F : At K mg "_law_good" "_law_good" s_law_good ["_law_tape_here"] f0 fd0) (B : Bt mg)  (D_law_one_of : Def P w K mg base "_law_one_of" ["_law_tape_here", "_law_items"] 2 sp_law_one_of) (D_law_nym : Def P w K mg base "_law_nym" ["_law_tape_here"] 3 sp_law_nym) : Def P w K mg base "_law_good" ["_law_tape_here"] 4 sp_law_good := by
  refine okD F sc_law_good (fun vs H Q E h => by obtain ⟨_, rfl, _⟩ := h; rfl) (fun cdv A outer s H vs Q E hr tk po h => ?_)
  have hu := hu_of hr
  have hu64 := hr.units
  have hc := (show (true : Bool) = true from rfl)
  have nd := sc_law_good.nd
  refine ⟨_, (pss_cons (ps_set (i := 1) nd rfl (Or.inl rfl) (pe_fn D_law_one_of (hr.mono (by decide)) tk (pa_cons (pn 0) (pa_cons (li_lst (la_cons li_str (la_cons li_str (la_cons li_str (la_cons li_str (la_cons li_str (la_cons li_str (la_cons li_str (la_cons li_str (la_cons li_str la_nil)))))))))) pa_nil))))
      (pss_cons (ps_set (i := 1) nd rfl (Or.inl rfl) (pe_fn D_law_one_of (hr.mono (by decide)) tk (pa_cons (pn 0) (pa_cons (pe_lst (pa_cons (pn 1) (pa_cons pe_str (pa_cons pe_str (pa_cons pe_str (pa_cons pe_str (pa_cons pe_str pa_nil))))))) pa_nil))))
      (pss_cons (ps_if (pt_cmpR (opIn hu) (pn 1) (li_tup (la_cons li_str (la_cons li_str (la_cons li_str la_nil)))) rfl) (pss_one (ps_ret (pe_lst (pa_cons (pn 1) pa_nil)))) pss_nil)
      (pss_cons (ps_if (pt_cmpR (opEq hu64) (pn 1) pe_str (nomark _)) (pss_one (ps_ret (pe_lst (pa_cons (pn 1) (pa_cons (pe_fn D_law_one_of (hr.mono (by decide)) tk (pa_cons (pn 0) (pa_cons (li_lst (la_cons li_int (la_cons li_int (la_cons li_int (la_cons li_int (la_cons (li_num (pe_op opSub pe_int pe_int) (fun _ _ _ q => q)) la_nil)))))) pa_nil))) pa_nil))))) pss_nil)
      (pss_cons (ps_set (i := 2) nd rfl (Or.inl rfl) (pe_lst (pa_cons (pn 1) (pa_cons (pe_fn D_law_one_of (hr.mono (by decide)) tk (pa_cons (pn 0) (pa_cons (pe_lst (pa_cons pe_int (pa_cons pe_int (pa_cons pe_int (pa_cons (pe_op opPow pe_int pe_int) (pa_cons (pe_op opAdd (pe_op opPow pe_int pe_int) pe_int) (pa_cons pe_int pa_nil))))))) pa_nil))) pa_nil))))
      (pss_cons (ps_if (pt_cmpR (opNotIn hu) (pn 1) (li_tup (la_cons li_str (la_cons li_str la_nil))) rfl) (pss_one (ps_ret (pn 2))) pss_nil)
      (pss_cons (ps_expr (pe_bm PySem.F.plainAttrs_list PySem.F.slot_list_append PySem.F.type_list_append mtAppend (pn 2) (pa_cons (pe_fn D_law_one_of (hr.mono (by decide)) tk (pa_cons (pn 0) (pa_cons (pe_op opAdd (li_lst (la_cons li_str (la_cons li_str (la_cons li_str (la_cons li_str (la_cons li_str (la_cons li_str (la_cons li_str la_nil)))))))) (pe_op opMul (pe_lst (pa_cons (pe_fn D_law_nym (hr.mono (by decide)) tk (pa_cons (pn 0) pa_nil)) pa_nil)) pe_int)) pa_nil))) pa_nil)))
      (pss_cons (ps_expr (pe_bm PySem.F.plainAttrs_list PySem.F.slot_list_append PySem.F.type_list_append mtAppend (pn 2) (pa_cons (pe_fn D_law_one_of (hr.mono (by decide)) tk (pa_cons (pn 0) (pa_cons (li_lst (la_cons li_str (la_cons li_str (la_cons li_str (la_cons li_str (la_cons li_str (la_cons li_str la_nil))))))) pa_nil))) pa_nil)))
      (pss_cons (ps_set (i := 3) nd rfl (Or.inl rfl) (pe_lst (pa_cons pe_int (pa_cons (pe_op opSub pe_int pe_int) (pa_cons (pe_op opSub (pe_op opPow pe_int pe_int) pe_int) (pa_cons (pe_op opSub pe_int (pe_op opPow pe_int pe_int)) (pa_cons (pe_op opPow pe_int pe_int) (pa_cons (pe_op opSub pe_int (pe_op opPow pe_int pe_int)) pa_nil))))))))
      (pss_one (ps_ret (pe_op opAdd (pn 2) (pe_op opMul (pe_lst (pa_cons (pe_fn D_law_one_of (hr.mono (by decide)) tk (pa_cons (pn 0) (pa_cons (pn 3) pa_nil))) pa_nil)) (pe_callTy callInt (by rfl) B.int boot_int (pa_cons (pe_cmpR (opEq hu64) (pn 1) pe_str (nomark _)) pa_nil))))))))))))))), ?_⟩
  clear hu hu64 hc nd tk po hr B D_law_one_of D_law_nym
  obtain ⟨t, rfl, hT, k⟩ := h
  rw [show L2.start _ _ = [some (.ref t), none, none, none] from rfl]
  refine sq fun N hN => ?_
  simp only [tSeq, tIfS, tTest, tOp, tV, tC, tAsg, gName, gSub, tRet, tRetN, tCB, tCons, tNil, tDrop, tNext, tAnd, tOr, tNot, tAndV, tOrV, tNotV, tIf, tTru, tUn, tCallS, WE, tTup, tLst, tSl, tPart, tNoPart, tPar, tChain, tBM, tBM0, tM0, tM1, gTup, gCons, gNil, tInC, gC, gN, tCallK, tCst, tRevL, ok_str, ok_int, ok_bool, ok_tuple, ok_list, ok_dict, sub_str, sub_tup, sub_lst, sub_bool, sub_int, sub_dict, Bool.not_true, Bool.not_false, kisS_none, kisS_bool, kisS_int, kisS_str, kisS_list, kisS_tuple, kisS_dict, kisT_none, kisT_bool, kisT_int, kisT_str, kisT_list, kisT_tuple, kisT_dict, kisL_none, kisL_bool, kisL_int, kisL_str, kisL_list, kisL_tuple, kisL_dict, kisB_none, kisB_bool, kisB_int, kisB_str, kisB_list, kisB_tuple, kisB_dict, kisI_none, kisI_bool, kisI_int, kisI_str, kisI_list, kisI_tuple, kisI_dict, kisIB_none, kisIB_bool, kisIB_int, kisIB_str, kisIB_list, kisIB_tuple, kisIB_dict, kisD_none, kisD_bool, kisD_int, kisD_str, kisD_list, kisD_tuple, kisD_dict, rEqU, rNeU, rAdd_1, rAdd_2, rAdd_3, rAdd_4, rSub_1, rMul_1, rMul_2, rMul_3, rDiv_1, rMod_1, rPow_1, rNeg_1, rLt_1, rLe_1, rLe_2, rGt_1, rGe_1, rIs_1, rIs_2, rIsNot_1, rIsNot_2, rMem_1, rItem_1, rItem_2, rStore_1, rLen_1, rLen_2, rInt_1, rInt_2, rMax_1, rMin_1, rList_1, rTuple_1, rAbs_1, rIsi_1, rSlice_1, rSlice_2, mAppend_1, mExtend_1, mPop_1, mPop_2, mInsert_1, mUpper_1, rInT_1, eqR_rr, eqR_rs, eqR_ri, eqR_rb, eqR_rn, eqR_sr, eqR_ir, eqR_br, eqR_nr, isCol_l, isCol_t, isCol_d, isSeq_l, isSeq_t, iAny, wipe, tYes, List.isEmpty_nil, List.isEmpty_cons, truN_non, truN_bl, truN_int, tyN_non, tyN_bl, tyN_int, tyN_str, keyOf, scal_nn, scal_nb, scal_ni, scal_ns, scal_nr, scal_bn, scal_bb, scal_bs, scal_br, scal_in, scal_ii, scal_is, scal_ir, scal_sn, scal_sb, scal_si, scal_ss, scal_sr, scal_rn, scal_rb, scal_ri, scal_rs, scal_rr, decide_true, decide_false, List.map_cons, List.map_nil, List.set_cons_zero, List.set_cons_succ, List.getElem?_cons_zero, List.getElem?_cons_succ, List.getElem?_nil, exists_eq_left, exists_eq_left', V.bl.injEq, V.int.injEq, V.str.injEq, V.ref.injEq, if_true, if_false, ite_true, ite_false, Bool.false_eq_true, eq_self, true_and, and_true, decide_eq_true_eq]
  intro v1 H1 e1 L1
  refine one_strs ["begin", "crash", "clean", "horizon", "save", "release", "back", "commit", "abort"] hT e1 L1 (by decide) fun w0 H2 hw0 p2 => ?_
  have ow0 : okItemB (.str w0) = true := (show ∀ z ∈ (["begin", "crash", "clean", "horizon", "save", "release", "back", "commit", "abort"] : List Str), okItemB (.str z) = true by decide +kernel) w0 hw0
  clear hw0 L1 e1
  refine hN _ _ ?_; clear hN N
  refine sq fun N hN => ?_
  simp only [tSeq, tIfS, tTest, tOp, tV, tC, tAsg, gName, gSub, tRet, tRetN, tCB, tCons, tNil, tDrop, tNext, tAnd, tOr, tNot, tAndV, tOrV, tNotV, tIf, tTru, tUn, tCallS, WE, tTup, tLst, tSl, tPart, tNoPart, tPar, tChain, tBM, tBM0, tM0, tM1, gTup, gCons, gNil, tInC, gC, gN, tCallK, tCst, tRevL, ok_str, ok_int, ok_bool, ok_tuple, ok_list, ok_dict, sub_str, sub_tup, sub_lst, sub_bool, sub_int, sub_dict, Bool.not_true, Bool.not_false, kisS_none, kisS_bool, kisS_int, kisS_str, kisS_list, kisS_tuple, kisS_dict, kisT_none, kisT_bool, kisT_int, kisT_str, kisT_list, kisT_tuple, kisT_dict, kisL_none, kisL_bool, kisL_int, kisL_str, kisL_list, kisL_tuple, kisL_dict, kisB_none, kisB_bool, kisB_int, kisB_str, kisB_list, kisB_tuple, kisB_dict, kisI_none, kisI_bool, kisI_int, kisI_str, kisI_list, kisI_tuple, kisI_dict, kisIB_none, kisIB_bool, kisIB_int, kisIB_str, kisIB_list, kisIB_tuple, kisIB_dict, kisD_none, kisD_bool, kisD_int, kisD_str, kisD_list, kisD_tuple, kisD_dict, rEqU, rNeU, rAdd_1, rAdd_2, rAdd_3, rAdd_4, rSub_1, rMul_1, rMul_2, rMul_3, rDiv_1, rMod_1, rPow_1, rNeg_1, rLt_1, rLe_1, rLe_2, rGt_1, rGe_1, rIs_1, rIs_2, rIsNot_1, rIsNot_2, rMem_1, rItem_1, rItem_2, rStore_1, rLen_1, rLen_2, rInt_1, rInt_2, rMax_1, rMin_1, rList_1, rTuple_1, rAbs_1, rIsi_1, rSlice_1, rSlice_2, mAppend_1, mExtend_1, mPop_1, mPop_2, mInsert_1, mUpper_1, rInT_1, eqR_rr, eqR_rs, eqR_ri, eqR_rb, eqR_rn, eqR_sr, eqR_ir, eqR_br, eqR_nr, isCol_l, isCol_t, isCol_d, isSeq_l, isSeq_t, iAny, wipe, tYes, List.isEmpty_nil, List.isEmpty_cons, truN_non, truN_bl, truN_int, tyN_non, tyN_bl, tyN_int, tyN_str, keyOf, scal_nn, scal_nb, scal_ni, scal_ns, scal_nr, scal_bn, scal_bb, scal_bs, scal_br, scal_in, scal_ii, scal_is, scal_ir, scal_sn, scal_sb, scal_si, scal_ss, scal_sr, scal_rn, scal_rb, scal_ri, scal_rs, scal_rr, decide_true, decide_false, List.map_cons, List.map_nil, List.set_cons_zero, List.set_cons_succ, List.getElem?_cons_zero, List.getElem?_cons_succ, List.getElem?_nil, exists_eq_left, exists_eq_left', V.bl.injEq, V.int.injEq, V.str.injEq, V.ref.injEq, if_true, if_false, ite_true, ite_false, Bool.false_eq_true, eq_self, true_and, and_true, decide_eq_true_eq]
  refine ⟨by show 6 ≤ sizeLine; decide, fun p hp => ?_⟩
  have p3 : ∀ o, Tp t H (upd H2 p o) := fun o => p2.trans (Tp.of_ext p2.b (Ext.new hp))
  refine Or.inl ⟨t, p, _, rfl, (p3 _).b, Or.inl (rdo_of upd_same (fun _ _ z => nomatch z)), by show 0 < 6 ∧ 6 ≤ 1000; decide, fun v H4 hv f4 hT4 => ?_⟩
  have p4 := (p3 _).trans (Tp.of_fr (p3 _).b hT4 f4)
  obtain ⟨w, rfl, ow⟩ : ∃ w, v = .str w ∧ okItemB (.str w) = true := by
    simp only [List.mem_cons, List.not_mem_nil, or_false] at hv
    rcases hv with rfl | rfl | rfl | rfl | rfl | rfl
    · exact ⟨w0, rfl, ow0⟩
    all_goals exact ⟨_, rfl, by decide +kernel⟩
  clear hv p2 p3 f4 hT4 hp ow0
  refine hN _ _ ?_; clear hN N
  have hword : ∀ r, goodD r → True := fun _ _ => trivial
  refine sq fun N hN => ?_
  suffices go : ∀ H', Tp t H H' → N [some (.ref t), some (.str w), none, none] H' by
    simp only [tSeq, tIfS, tTest, tOp, tV, tC, tAsg, gName, gSub, tRet, tRetN, tCB, tCons, tNil, tDrop, tNext, tAnd, tOr, tNot, tAndV, tOrV, tNotV, tIf, tTru, tUn, tCallS, WE, tTup, tLst, tSl, tPart, tNoPart, tPar, tChain, tBM, tBM0, tM0, tM1, gTup, gCons, gNil, tInC, gC, gN, tCallK, tCst, tRevL, ok_str, ok_int, ok_bool, ok_tuple, ok_list, ok_dict, sub_str, sub_tup, sub_lst, sub_bool, sub_int, sub_dict, Bool.not_true, Bool.not_false, kisS_none, kisS_bool, kisS_int, kisS_str, kisS_list, kisS_tuple, kisS_dict, kisT_none, kisT_bool, kisT_int, kisT_str, kisT_list, kisT_tuple, kisT_dict, kisL_none, kisL_bool, kisL_int, kisL_str, kisL_list, kisL_tuple, kisL_dict, kisB_none, kisB_bool, kisB_int, kisB_str, kisB_list, kisB_tuple, kisB_dict, kisI_none, kisI_bool, kisI_int, kisI_str, kisI_list, kisI_tuple, kisI_dict, kisIB_none, kisIB_bool, kisIB_int, kisIB_str, kisIB_list, kisIB_tuple, kisIB_dict, kisD_none, kisD_bool, kisD_int, kisD_str, kisD_list, kisD_tuple, kisD_dict, rEqU, rNeU, rAdd_1, rAdd_2, rAdd_3, rAdd_4, rSub_1, rMul_1, rMul_2, rMul_3, rDiv_1, rMod_1, rPow_1, rNeg_1, rLt_1, rLe_1, rLe_2, rGt_1, rGe_1, rIs_1, rIs_2, rIsNot_1, rIsNot_2, rMem_1, rItem_1, rItem_2, rStore_1, rLen_1, rLen_2, rInt_1, rInt_2, rMax_1, rMin_1, rList_1, rTuple_1, rAbs_1, rIsi_1, rSlice_1, rSlice_2, mAppend_1, mExtend_1, mPop_1, mPop_2, mInsert_1, mUpper_1, rInT_1, eqR_rr, eqR_rs, eqR_ri, eqR_rb, eqR_rn, eqR_sr, eqR_ir, eqR_br, eqR_nr, isCol_l, isCol_t, isCol_d, isSeq_l, isSeq_t, iAny, wipe, tYes, List.isEmpty_nil, List.isEmpty_cons, truN_non, truN_bl, truN_int, tyN_non, tyN_bl, tyN_int, tyN_str, keyOf, scal_nn, scal_nb, scal_ni, scal_ns, scal_nr, scal_bn, scal_bb, scal_bs, scal_br, scal_in, scal_ii, scal_is, scal_ir, scal_sn, scal_sb, scal_si, scal_ss, scal_sr, scal_rn, scal_rb, scal_ri, scal_rs, scal_rr, decide_true, decide_false, List.map_cons, List.map_nil, List.set_cons_zero, List.set_cons_succ, List.getElem?_cons_zero, List.getElem?_cons_succ, List.getElem?_nil, exists_eq_left, exists_eq_left', V.bl.injEq, V.int.injEq, V.str.injEq, V.ref.injEq, if_true, if_false, ite_true, ite_false, Bool.false_eq_true, eq_self, true_and, and_true, decide_eq_true_eq]
    intro v5 H5 e5 L5
    cases L5 with
    | @tup a5 xs5 _ r5 A5 =>
    obtain rfl : xs5 = aloneWs.map V.str := DrA.strs (ws := aloneWs) A5
    have r5 := rdo_of (tup_new r5) (fun _ _ z => nomatch z)
    have p5 := p4.trans (Tp.of_ext p4.b e5)
    simp only [tSeq, tIfS, tTest, tOp, tV, tC, tAsg, gName, gSub, tRet, tRetN, tCB, tCons, tNil, tDrop, tNext, tAnd, tOr, tNot, tAndV, tOrV, tNotV, tIf, tTru, tUn, tCallS, WE, tTup, tLst, tSl, tPart, tNoPart, tPar, tChain, tBM, tBM0, tM0, tM1, gTup, gCons, gNil, tInC, gC, gN, tCallK, tCst, tRevL, ok_str, ok_int, ok_bool, ok_tuple, ok_list, ok_dict, sub_str, sub_tup, sub_lst, sub_bool, sub_int, sub_dict, Bool.not_true, Bool.not_false, kisS_none, kisS_bool, kisS_int, kisS_str, kisS_list, kisS_tuple, kisS_dict, kisT_none, kisT_bool, kisT_int, kisT_str, kisT_list, kisT_tuple, kisT_dict, kisL_none, kisL_bool, kisL_int, kisL_str, kisL_list, kisL_tuple, kisL_dict, kisB_none, kisB_bool, kisB_int, kisB_str, kisB_list, kisB_tuple, kisB_dict, kisI_none, kisI_bool, kisI_int, kisI_str, kisI_list, kisI_tuple, kisI_dict, kisIB_none, kisIB_bool, kisIB_int, kisIB_str, kisIB_list, kisIB_tuple, kisIB_dict, kisD_none, kisD_bool, kisD_int, kisD_str, kisD_list, kisD_tuple, kisD_dict, rEqU, rNeU, rAdd_1, rAdd_2, rAdd_3, rAdd_4, rSub_1, rMul_1, rMul_2, rMul_3, rDiv_1, rMod_1, rPow_1, rNeg_1, rLt_1, rLe_1, rLe_2, rGt_1, rGe_1, rIs_1, rIs_2, rIsNot_1, rIsNot_2, rMem_1, rItem_1, rItem_2, rStore_1, rLen_1, rLen_2, rInt_1, rInt_2, rMax_1, rMin_1, rList_1, rTuple_1, rAbs_1, rIsi_1, rSlice_1, rSlice_2, mAppend_1, mExtend_1, mPop_1, mPop_2, mInsert_1, mUpper_1, rInT_1, eqR_rr, eqR_rs, eqR_ri, eqR_rb, eqR_rn, eqR_sr, eqR_ir, eqR_br, eqR_nr, isCol_l, isCol_t, isCol_d, isSeq_l, isSeq_t, iAny, wipe, tYes, List.isEmpty_nil, List.isEmpty_cons, truN_non, truN_bl, truN_int, tyN_non, tyN_bl, tyN_int, tyN_str, keyOf, scal_nn, scal_nb, scal_ni, scal_ns, scal_nr, scal_bn, scal_bb, scal_bs, scal_br, scal_in, scal_ii, scal_is, scal_ir, scal_sn, scal_sb, scal_si, scal_ss, scal_sr, scal_rn, scal_rb, scal_ri, scal_rs, scal_rr, decide_true, decide_false, List.map_cons, List.map_nil, List.set_cons_zero, List.set_cons_succ, List.getElem?_cons_zero, List.getElem?_cons_succ, List.getElem?_nil, exists_eq_left, exists_eq_left', V.bl.injEq, V.int.injEq, V.str.injEq, V.ref.injEq, if_true, if_false, ite_true, ite_false, Bool.false_eq_true, eq_self, true_and, and_true, decide_eq_true_eq, r5]
    refine ⟨⟨rfl, flat_str _⟩, ?_⟩
    rw [inV_str]
    refine ite2 (fun _ => ?_) (fun _ => go _ p5)
    refine ⟨by show 1 ≤ sizeLine; decide, fun l hl => ?_⟩
    exact k l _ [.str w] _ (LstI.mk' p5 hl (.cons (.str w) .nil)) ⟨by show 0 < 1 ∧ 1 ≤ 5; decide, ⟨w, [], rfl⟩, fun d hd => by rw [List.mem_singleton.mp hd]; exact ow⟩
  clear p4
  intro H5 p5
  refine hN _ _ ?_; clear hN N
  refine sq fun N hN => ?_
  suffices go : N [some (.ref t), some (.str w), none, none] H5 by
    simp only [tSeq, tIfS, tTest, tOp, tV, tC, tAsg, gName, gSub, tRet, tRetN, tCB, tCons, tNil, tDrop, tNext, tAnd, tOr, tNot, tAndV, tOrV, tNotV, tIf, tTru, tUn, tCallS, WE, tTup, tLst, tSl, tPart, tNoPart, tPar, tChain, tBM, tBM0, tM0, tM1, gTup, gCons, gNil, tInC, gC, gN, tCallK, tCst, tRevL, ok_str, ok_int, ok_bool, ok_tuple, ok_list, ok_dict, sub_str, sub_tup, sub_lst, sub_bool, sub_int, sub_dict, Bool.not_true, Bool.not_false, kisS_none, kisS_bool, kisS_int, kisS_str, kisS_list, kisS_tuple, kisS_dict, kisT_none, kisT_bool, kisT_int, kisT_str, kisT_list, kisT_tuple, kisT_dict, kisL_none, kisL_bool, kisL_int, kisL_str, kisL_list, kisL_tuple, kisL_dict, kisB_none, kisB_bool, kisB_int, kisB_str, kisB_list, kisB_tuple, kisB_dict, kisI_none, kisI_bool, kisI_int, kisI_str, kisI_list, kisI_tuple, kisI_dict, kisIB_none, kisIB_bool, kisIB_int, kisIB_str, kisIB_list, kisIB_tuple, kisIB_dict, kisD_none, kisD_bool, kisD_int, kisD_str, kisD_list, kisD_tuple, kisD_dict, rEqU, rNeU, rAdd_1, rAdd_2, rAdd_3, rAdd_4, rSub_1, rMul_1, rMul_2, rMul_3, rDiv_1, rMod_1, rPow_1, rNeg_1, rLt_1, rLe_1, rLe_2, rGt_1, rGe_1, rIs_1, rIs_2, rIsNot_1, rIsNot_2, rMem_1, rItem_1, rItem_2, rStore_1, rLen_1, rLen_2, rInt_1, rInt_2, rMax_1, rMin_1, rList_1, rTuple_1, rAbs_1, rIsi_1, rSlice_1, rSlice_2, mAppend_1, mExtend_1, mPop_1, mPop_2, mInsert_1, mUpper_1, rInT_1, eqR_rr, eqR_rs, eqR_ri, eqR_rb, eqR_rn, eqR_sr, eqR_ir, eqR_br, eqR_nr, isCol_l, isCol_t, isCol_d, isSeq_l, isSeq_t, iAny, wipe, tYes, List.isEmpty_nil, List.isEmpty_cons, truN_non, truN_bl, truN_int, tyN_non, tyN_bl, tyN_int, tyN_str, keyOf, scal_nn, scal_nb, scal_ni, scal_ns, scal_nr, scal_bn, scal_bb, scal_bs, scal_br, scal_in, scal_ii, scal_is, scal_ir, scal_sn, scal_sb, scal_si, scal_ss, scal_sr, scal_rn, scal_rb, scal_ri, scal_rs, scal_rr, decide_true, decide_false, List.map_cons, List.map_nil, List.set_cons_zero, List.set_cons_succ, List.getElem?_cons_zero, List.getElem?_cons_succ, List.getElem?_nil, exists_eq_left, exists_eq_left', V.bl.injEq, V.int.injEq, V.str.injEq, V.ref.injEq, if_true, if_false, ite_true, ite_false, Bool.false_eq_true, eq_self, true_and, and_true, decide_eq_true_eq]
    refine ite2 (fun _ => ?_) (fun _ => go)
    intro v6 H6 e6 L6
    refine one_lit p5.b e6 L6 (by decide) fun x d H7 hd dx p7 => ?_
    have od : okItemB d = true := (show ∀ z ∈ ([.int 0, .int 1, .int 60, .int 61, .int (0 - 1)] : List PyData), okItemB z = true by decide +kernel) d hd
    refine ⟨by show 2 ≤ sizeLine; decide, fun l hl => ?_⟩
    exact k l _ [.str w, d] _ (LstI.mk' (p5.trans p7) hl (.cons (.str w) (.cons (Dr.ext (p5.right) dx) .nil))) ⟨by show 0 < 2 ∧ 2 ≤ 5; decide, ⟨w, [d], rfl⟩, fun z hz => by
      simp only [List.mem_cons, List.not_mem_nil, or_false] at hz
      rcases hz with rfl | rfl
      · exact ow
      · exact od⟩
  refine hN _ _ ?_; clear hN N
  refine sq fun N hN => ?_
  simp only [tSeq, tIfS, tTest, tOp, tV, tC, tAsg, gName, gSub, tRet, tRetN, tCB, tCons, tNil, tDrop, tNext, tAnd, tOr, tNot, tAndV, tOrV, tNotV, tIf, tTru, tUn, tCallS, WE, tTup, tLst, tSl, tPart, tNoPart, tPar, tChain, tBM, tBM0, tM0, tM1, gTup, gCons, gNil, tInC, gC, gN, tCallK, tCst, tRevL, ok_str, ok_int, ok_bool, ok_tuple, ok_list, ok_dict, sub_str, sub_tup, sub_lst, sub_bool, sub_int, sub_dict, Bool.not_true, Bool.not_false, kisS_none, kisS_bool, kisS_int, kisS_str, kisS_list, kisS_tuple, kisS_dict, kisT_none, kisT_bool, kisT_int, kisT_str, kisT_list, kisT_tuple, kisT_dict, kisL_none, kisL_bool, kisL_int, kisL_str, kisL_list, kisL_tuple, kisL_dict, kisB_none, kisB_bool, kisB_int, kisB_str, kisB_list, kisB_tuple, kisB_dict, kisI_none, kisI_bool, kisI_int, kisI_str, kisI_list, kisI_tuple, kisI_dict, kisIB_none, kisIB_bool, kisIB_int, kisIB_str, kisIB_list, kisIB_tuple, kisIB_dict, kisD_none, kisD_bool, kisD_int, kisD_str, kisD_list, kisD_tuple, kisD_dict, rEqU, rNeU, rAdd_1, rAdd_2, rAdd_3, rAdd_4, rSub_1, rMul_1, rMul_2, rMul_3, rDiv_1, rMod_1, rPow_1, rNeg_1, rLt_1, rLe_1, rLe_2, rGt_1, rGe_1, rIs_1, rIs_2, rIsNot_1, rIsNot_2, rMem_1, rItem_1, rItem_2, rStore_1, rLen_1, rLen_2, rInt_1, rInt_2, rMax_1, rMin_1, rList_1, rTuple_1, rAbs_1, rIsi_1, rSlice_1, rSlice_2, mAppend_1, mExtend_1, mPop_1, mPop_2, mInsert_1, mUpper_1, rInT_1, eqR_rr, eqR_rs, eqR_ri, eqR_rb, eqR_rn, eqR_sr, eqR_ir, eqR_br, eqR_nr, isCol_l, isCol_t, isCol_d, isSeq_l, isSeq_t, iAny, wipe, tYes, List.isEmpty_nil, List.isEmpty_cons, truN_non, truN_bl, truN_int, tyN_non, tyN_bl, tyN_int, tyN_str, keyOf, scal_nn, scal_nb, scal_ni, scal_ns, scal_nr, scal_bn, scal_bb, scal_bs, scal_br, scal_in, scal_ii, scal_is, scal_ir, scal_sn, scal_sb, scal_si, scal_ss, scal_sr, scal_rn, scal_rb, scal_ri, scal_rs, scal_rr, decide_true, decide_false, List.map_cons, List.map_nil, List.set_cons_zero, List.set_cons_succ, List.getElem?_cons_zero, List.getElem?_cons_succ, List.getElem?_nil, exists_eq_left, exists_eq_left', V.bl.injEq, V.int.injEq, V.str.injEq, V.ref.injEq, if_true, if_false, ite_true, ite_false, Bool.false_eq_true, eq_self, true_and, and_true, decide_eq_true_eq]
  have e6 : (10 : Int) ^ Int.toNat 6 = 1000000 := by decide
  have b6 : (0 : Int) ≤ 6 ∧ (Builtin.Int.intBits 10 : Int) * 6 ≤ 2 ^ 27 := by decide
  rw [e6]
  refine ⟨b6, b6, by show 6 ≤ sizeLine; decide, fun p hp => ?_⟩
  have p6 : ∀ o, Tp t H (upd H5 p o) := fun o => p5.trans (Tp.of_ext p5.b (Ext.new hp))
  refine Or.inl ⟨t, p, _, rfl, (p6 _).b, Or.inl (rdo_of upd_same (fun _ _ z => nomatch z)), by show 0 < 6 ∧ 6 ≤ 1000; decide, fun v H7 hv f7 hT7 => ?_⟩
  have p7 := (p6 _).trans (Tp.of_fr (p6 _).b hT7 f7)
  obtain ⟨i, rfl, oi⟩ : ∃ i, v = .int i ∧ okItemB (.int i) = true := by
    simp only [List.mem_cons, List.not_mem_nil, or_false] at hv
    rcases hv with rfl | rfl | rfl | rfl | rfl | rfl <;> exact ⟨_, rfl, by decide +kernel⟩
  clear hv p6 f7 hT7 hp e6 b6 p5
  refine ⟨by show 2 ≤ sizeLine; decide, fun l hl => ?_⟩
  have I0 := LstI.mk' p7 hl (.cons (.str w) (.cons (.int i) .nil))
  have g0 : goodD [.str w, .int i] := ⟨by show 0 < 2 ∧ 2 ≤ 5; decide, ⟨w, _, rfl⟩, fun z hz => by
    simp only [List.mem_cons, List.not_mem_nil, or_false] at hz
    rcases hz with rfl | rfl
    · exact ow
    · exact oi⟩
  generalize upd H7 l (.lst [.str w, .int i]) = H8 at I0 ⊢
  clear p7 hl
  refine hN _ _ ?_; clear hN N
  refine sq fun N hN => ?_
  suffices go : ∀ H', LstI t H l H' [.str w, .int i] [.str w, .int i] → N [some (.ref t), some (.str w), some (.ref l), none] H' by
    simp only [tSeq, tIfS, tTest, tOp, tV, tC, tAsg, gName, gSub, tRet, tRetN, tCB, tCons, tNil, tDrop, tNext, tAnd, tOr, tNot, tAndV, tOrV, tNotV, tIf, tTru, tUn, tCallS, WE, tTup, tLst, tSl, tPart, tNoPart, tPar, tChain, tBM, tBM0, tM0, tM1, gTup, gCons, gNil, tInC, gC, gN, tCallK, tCst, tRevL, ok_str, ok_int, ok_bool, ok_tuple, ok_list, ok_dict, sub_str, sub_tup, sub_lst, sub_bool, sub_int, sub_dict, Bool.not_true, Bool.not_false, kisS_none, kisS_bool, kisS_int, kisS_str, kisS_list, kisS_tuple, kisS_dict, kisT_none, kisT_bool, kisT_int, kisT_str, kisT_list, kisT_tuple, kisT_dict, kisL_none, kisL_bool, kisL_int, kisL_str, kisL_list, kisL_tuple, kisL_dict, kisB_none, kisB_bool, kisB_int, kisB_str, kisB_list, kisB_tuple, kisB_dict, kisI_none, kisI_bool, kisI_int, kisI_str, kisI_list, kisI_tuple, kisI_dict, kisIB_none, kisIB_bool, kisIB_int, kisIB_str, kisIB_list, kisIB_tuple, kisIB_dict, kisD_none, kisD_bool, kisD_int, kisD_str, kisD_list, kisD_tuple, kisD_dict, rEqU, rNeU, rAdd_1, rAdd_2, rAdd_3, rAdd_4, rSub_1, rMul_1, rMul_2, rMul_3, rDiv_1, rMod_1, rPow_1, rNeg_1, rLt_1, rLe_1, rLe_2, rGt_1, rGe_1, rIs_1, rIs_2, rIsNot_1, rIsNot_2, rMem_1, rItem_1, rItem_2, rStore_1, rLen_1, rLen_2, rInt_1, rInt_2, rMax_1, rMin_1, rList_1, rTuple_1, rAbs_1, rIsi_1, rSlice_1, rSlice_2, mAppend_1, mExtend_1, mPop_1, mPop_2, mInsert_1, mUpper_1, rInT_1, eqR_rr, eqR_rs, eqR_ri, eqR_rb, eqR_rn, eqR_sr, eqR_ir, eqR_br, eqR_nr, isCol_l, isCol_t, isCol_d, isSeq_l, isSeq_t, iAny, wipe, tYes, List.isEmpty_nil, List.isEmpty_cons, truN_non, truN_bl, truN_int, tyN_non, tyN_bl, tyN_int, tyN_str, keyOf, scal_nn, scal_nb, scal_ni, scal_ns, scal_nr, scal_bn, scal_bb, scal_bs, scal_br, scal_in, scal_ii, scal_is, scal_ir, scal_sn, scal_sb, scal_si, scal_ss, scal_sr, scal_rn, scal_rb, scal_ri, scal_rs, scal_rr, decide_true, decide_false, List.map_cons, List.map_nil, List.set_cons_zero, List.set_cons_succ, List.getElem?_cons_zero, List.getElem?_cons_succ, List.getElem?_nil, exists_eq_left, exists_eq_left', V.bl.injEq, V.int.injEq, V.str.injEq, V.ref.injEq, if_true, if_false, ite_true, ite_false, Bool.false_eq_true, eq_self, true_and, and_true, decide_eq_true_eq]
    intro v5 H5 e5 L5
    cases L5 with
    | @tup a5 xs5 _ r5 A5 =>
    obtain rfl : xs5 = lcWs.map V.str := DrA.strs (ws := lcWs) A5
    have r5 := rdo_of (tup_new r5) (fun _ _ z => nomatch z)
    have I1 := I0.step (Tp.of_ext I0.p.b e5)
    simp only [tSeq, tIfS, tTest, tOp, tV, tC, tAsg, gName, gSub, tRet, tRetN, tCB, tCons, tNil, tDrop, tNext, tAnd, tOr, tNot, tAndV, tOrV, tNotV, tIf, tTru, tUn, tCallS, WE, tTup, tLst, tSl, tPart, tNoPart, tPar, tChain, tBM, tBM0, tM0, tM1, gTup, gCons, gNil, tInC, gC, gN, tCallK, tCst, tRevL, ok_str, ok_int, ok_bool, ok_tuple, ok_list, ok_dict, sub_str, sub_tup, sub_lst, sub_bool, sub_int, sub_dict, Bool.not_true, Bool.not_false, kisS_none, kisS_bool, kisS_int, kisS_str, kisS_list, kisS_tuple, kisS_dict, kisT_none, kisT_bool, kisT_int, kisT_str, kisT_list, kisT_tuple, kisT_dict, kisL_none, kisL_bool, kisL_int, kisL_str, kisL_list, kisL_tuple, kisL_dict, kisB_none, kisB_bool, kisB_int, kisB_str, kisB_list, kisB_tuple, kisB_dict, kisI_none, kisI_bool, kisI_int, kisI_str, kisI_list, kisI_tuple, kisI_dict, kisIB_none, kisIB_bool, kisIB_int, kisIB_str, kisIB_list, kisIB_tuple, kisIB_dict, kisD_none, kisD_bool, kisD_int, kisD_str, kisD_list, kisD_tuple, kisD_dict, rEqU, rNeU, rAdd_1, rAdd_2, rAdd_3, rAdd_4, rSub_1, rMul_1, rMul_2, rMul_3, rDiv_1, rMod_1, rPow_1, rNeg_1, rLt_1, rLe_1, rLe_2, rGt_1, rGe_1, rIs_1, rIs_2, rIsNot_1, rIsNot_2, rMem_1, rItem_1, rItem_2, rStore_1, rLen_1, rLen_2, rInt_1, rInt_2, rMax_1, rMin_1, rList_1, rTuple_1, rAbs_1, rIsi_1, rSlice_1, rSlice_2, mAppend_1, mExtend_1, mPop_1, mPop_2, mInsert_1, mUpper_1, rInT_1, eqR_rr, eqR_rs, eqR_ri, eqR_rb, eqR_rn, eqR_sr, eqR_ir, eqR_br, eqR_nr, isCol_l, isCol_t, isCol_d, isSeq_l, isSeq_t, iAny, wipe, tYes, List.isEmpty_nil, List.isEmpty_cons, truN_non, truN_bl, truN_int, tyN_non, tyN_bl, tyN_int, tyN_str, keyOf, scal_nn, scal_nb, scal_ni, scal_ns, scal_nr, scal_bn, scal_bb, scal_bs, scal_br, scal_in, scal_ii, scal_is, scal_ir, scal_sn, scal_sb, scal_si, scal_ss, scal_sr, scal_rn, scal_rb, scal_ri, scal_rs, scal_rr, decide_true, decide_false, List.map_cons, List.map_nil, List.set_cons_zero, List.set_cons_succ, List.getElem?_cons_zero, List.getElem?_cons_succ, List.getElem?_nil, exists_eq_left, exists_eq_left', V.bl.injEq, V.int.injEq, V.str.injEq, V.ref.injEq, if_true, if_false, ite_true, ite_false, Bool.false_eq_true, eq_self, true_and, and_true, decide_eq_true_eq, r5]
    refine ⟨⟨rfl, flat_str _⟩, ?_⟩
    exact ite2 (fun _ => k l _ _ _ I1 g0) (fun _ => go _ I1)
  clear I0
  intro H8 I0
  refine hN _ _ ?_; clear hN N
  refine sq fun N hN => ?_
  simp only [tSeq, tIfS, tTest, tOp, tV, tC, tAsg, gName, gSub, tRet, tRetN, tCB, tCons, tNil, tDrop, tNext, tAnd, tOr, tNot, tAndV, tOrV, tNotV, tIf, tTru, tUn, tCallS, WE, tTup, tLst, tSl, tPart, tNoPart, tPar, tChain, tBM, tBM0, tM0, tM1, gTup, gCons, gNil, tInC, gC, gN, tCallK, tCst, tRevL, ok_str, ok_int, ok_bool, ok_tuple, ok_list, ok_dict, sub_str, sub_tup, sub_lst, sub_bool, sub_int, sub_dict, Bool.not_true, Bool.not_false, kisS_none, kisS_bool, kisS_int, kisS_str, kisS_list, kisS_tuple, kisS_dict, kisT_none, kisT_bool, kisT_int, kisT_str, kisT_list, kisT_tuple, kisT_dict, kisL_none, kisL_bool, kisL_int, kisL_str, kisL_list, kisL_tuple, kisL_dict, kisB_none, kisB_bool, kisB_int, kisB_str, kisB_list, kisB_tuple, kisB_dict, kisI_none, kisI_bool, kisI_int, kisI_str, kisI_list, kisI_tuple, kisI_dict, kisIB_none, kisIB_bool, kisIB_int, kisIB_str, kisIB_list, kisIB_tuple, kisIB_dict, kisD_none, kisD_bool, kisD_int, kisD_str, kisD_list, kisD_tuple, kisD_dict, rEqU, rNeU, rAdd_1, rAdd_2, rAdd_3, rAdd_4, rSub_1, rMul_1, rMul_2, rMul_3, rDiv_1, rMod_1, rPow_1, rNeg_1, rLt_1, rLe_1, rLe_2, rGt_1, rGe_1, rIs_1, rIs_2, rIsNot_1, rIsNot_2, rMem_1, rItem_1, rItem_2, rStore_1, rLen_1, rLen_2, rInt_1, rInt_2, rMax_1, rMin_1, rList_1, rTuple_1, rAbs_1, rIsi_1, rSlice_1, rSlice_2, mAppend_1, mExtend_1, mPop_1, mPop_2, mInsert_1, mUpper_1, rInT_1, eqR_rr, eqR_rs, eqR_ri, eqR_rb, eqR_rn, eqR_sr, eqR_ir, eqR_br, eqR_nr, isCol_l, isCol_t, isCol_d, isSeq_l, isSeq_t, iAny, wipe, tYes, List.isEmpty_nil, List.isEmpty_cons, truN_non, truN_bl, truN_int, tyN_non, tyN_bl, tyN_int, tyN_str, keyOf, scal_nn, scal_nb, scal_ni, scal_ns, scal_nr, scal_bn, scal_bb, scal_bs, scal_br, scal_in, scal_ii, scal_is, scal_ir, scal_sn, scal_sb, scal_si, scal_ss, scal_sr, scal_rn, scal_rb, scal_ri, scal_rs, scal_rr, decide_true, decide_false, List.map_cons, List.map_nil, List.set_cons_zero, List.set_cons_succ, List.getElem?_cons_zero, List.getElem?_cons_succ, List.getElem?_nil, exists_eq_left, exists_eq_left', V.bl.injEq, V.int.injEq, V.str.injEq, V.ref.injEq, if_true, if_false, ite_true, ite_false, Bool.false_eq_true, eq_self, true_and, and_true, decide_eq_true_eq]
  refine ⟨tyV_l (by rw [I0.rd]; rfl), fun v1 H9 e9 L9 => ?_⟩
  cases L9 with
  | @lst a1 xs1 _ r1 A1 =>
  have I1 := I0.step (Tp.of_ext I0.p.b e9)
  refine ⟨t, rfl, I1.p.b, fun s H10 hs1 hs2 p10 => ?_⟩
  have I2 := I1.step p10
  obtain rfl : xs1 = (["x", "ab", "abcdef", "abcdefg", "", "X", "zz"] : List Str).map V.str := DrA.strs (ws := ["x", "ab", "abcdef", "abcdefg", "", "X", "zz"]) A1
  have c0 := lst_new r1
  have na : a1 ≠ t := fun z => by
    obtain ⟨d, m, e, _⟩ := I1.p.b
    rw [z, e] at c0
    cases c0
  replace c0 := p10.x _ _ na c0
  refine ⟨by show 1 ≤ sizeLine; decide, fun p hp => ?_⟩
  simp only [upd_same]
  refine ⟨⟨by decide, by decide, by show 1 * 4 ≤ sizeLine; decide⟩, fun p2 hp2 => ?_⟩
  have q1 : Ext H10 (upd H10 p (.lst [.str s])) := Ext.new hp
  have q2 : Ext (upd H10 p (.lst [.str s])) (upd (upd H10 p (.lst [.str s])) p2 (.lst [.str s, .str s, .str s, .str s])) := Ext.new hp2
  change rAdd _ _ (upd (upd H10 p (.lst [.str s])) p2 (.lst [.str s, .str s, .str s, .str s])) _
  have c1 := q2 _ _ (q1 _ _ c0)
  have c2 : upd (upd H10 p (.lst [.str s])) p2 (.lst [.str s, .str s, .str s, .str s]) p2 = some (.lst [.str s, .str s, .str s, .str s]) := upd_same
  have q3 := q1.trans q2
  generalize upd (upd H10 p (.lst [.str s])) p2 (.lst [.str s, .str s, .str s, .str s]) = H11 at c1 c2 q3 ⊢
  clear q1 q2 hp hp2
  have I3 := I2.step (Tp.of_ext I2.p.b q3)
  simp only [tSeq, tIfS, tTest, tOp, tV, tC, tAsg, gName, gSub, tRet, tRetN, tCB, tCons, tNil, tDrop, tNext, tAnd, tOr, tNot, tAndV, tOrV, tNotV, tIf, tTru, tUn, tCallS, WE, tTup, tLst, tSl, tPart, tNoPart, tPar, tChain, tBM, tBM0, tM0, tM1, gTup, gCons, gNil, tInC, gC, gN, tCallK, tCst, tRevL, ok_str, ok_int, ok_bool, ok_tuple, ok_list, ok_dict, sub_str, sub_tup, sub_lst, sub_bool, sub_int, sub_dict, Bool.not_true, Bool.not_false, kisS_none, kisS_bool, kisS_int, kisS_str, kisS_list, kisS_tuple, kisS_dict, kisT_none, kisT_bool, kisT_int, kisT_str, kisT_list, kisT_tuple, kisT_dict, kisL_none, kisL_bool, kisL_int, kisL_str, kisL_list, kisL_tuple, kisL_dict, kisB_none, kisB_bool, kisB_int, kisB_str, kisB_list, kisB_tuple, kisB_dict, kisI_none, kisI_bool, kisI_int, kisI_str, kisI_list, kisI_tuple, kisI_dict, kisIB_none, kisIB_bool, kisIB_int, kisIB_str, kisIB_list, kisIB_tuple, kisIB_dict, kisD_none, kisD_bool, kisD_int, kisD_str, kisD_list, kisD_tuple, kisD_dict, rEqU, rNeU, rAdd_1, rAdd_2, rAdd_3, rAdd_4, rSub_1, rMul_1, rMul_2, rMul_3, rDiv_1, rMod_1, rPow_1, rNeg_1, rLt_1, rLe_1, rLe_2, rGt_1, rGe_1, rIs_1, rIs_2, rIsNot_1, rIsNot_2, rMem_1, rItem_1, rItem_2, rStore_1, rLen_1, rLen_2, rInt_1, rInt_2, rMax_1, rMin_1, rList_1, rTuple_1, rAbs_1, rIsi_1, rSlice_1, rSlice_2, mAppend_1, mExtend_1, mPop_1, mPop_2, mInsert_1, mUpper_1, rInT_1, eqR_rr, eqR_rs, eqR_ri, eqR_rb, eqR_rn, eqR_sr, eqR_ir, eqR_br, eqR_nr, isCol_l, isCol_t, isCol_d, isSeq_l, isSeq_t, iAny, wipe, tYes, List.isEmpty_nil, List.isEmpty_cons, truN_non, truN_bl, truN_int, tyN_non, tyN_bl, tyN_int, tyN_str, keyOf, scal_nn, scal_nb, scal_ni, scal_ns, scal_nr, scal_bn, scal_bb, scal_bs, scal_br, scal_in, scal_ii, scal_is, scal_ir, scal_sn, scal_sb, scal_si, scal_ss, scal_sr, scal_rn, scal_rb, scal_ri, scal_rs, scal_rr, decide_true, decide_false, List.map_cons, List.map_nil, List.set_cons_zero, List.set_cons_succ, List.getElem?_cons_zero, List.getElem?_cons_succ, List.getElem?_nil, exists_eq_left, exists_eq_left', V.bl.injEq, V.int.injEq, V.str.injEq, V.ref.injEq, if_true, if_false, ite_true, ite_false, Bool.false_eq_true, eq_self, true_and, and_true, decide_eq_true_eq, c1, c2]
  refine ⟨by show 7 + 4 ≤ sizeLine; decide, fun p3 hp3 => ?_⟩
  have I4 : ∀ o, LstI t H l (upd H11 p3 o) [.str w, .int i] [.str w, .int i] := fun o => I3.step (Tp.of_ext I3.p.b (Ext.new hp3))
  refine Or.inl ⟨t, p3, _, rfl, (I4 _).p.b, Or.inl (rdo_of upd_same (fun _ _ z => nomatch z)), by show 0 < 11 ∧ 11 ≤ 1000; decide, fun v H12 hv f12 hT12 => ?_⟩
  have I5 := (I4 _).step (Tp.of_fr (I4 _).p.b hT12 f12)
  obtain ⟨z, rfl, oz⟩ : ∃ z, v = .str z ∧ okItemB (.str z) = true := by
    simp only [List.cons_append, List.nil_append, List.map_cons, List.map_nil, List.mem_cons, List.not_mem_nil, or_false] at hv
    rcases hv with rfl | rfl | rfl | rfl | rfl | rfl | rfl | rfl | rfl | rfl | rfl
    all_goals first
      | exact ⟨_, rfl, okItem_mk hs1 hs2⟩
      | exact ⟨_, rfl, by decide +kernel⟩
  simp only [I5.at_]
  refine ⟨by show 2 < sizeLine; decide, ?_⟩
  have I6 := I5.put (I5.A.append (.cons (.str z) .nil))
  have g6 : goodD [.str w, .int i, .str z] := ⟨by show 0 < 3 ∧ 3 ≤ 5; decide, ⟨w, _, rfl⟩, fun y hy => by
    simp only [List.mem_cons, List.not_mem_nil, or_false] at hy
    rcases hy with rfl | rfl | rfl
    · exact ow
    · exact oi
    · exact oz⟩
  change LstI t H l (upd H12 l (.lst [.str w, .int i, .str z])) [.str w, .int i, .str z] [.str w, .int i, .str z] at I6
  change N _ (upd H12 l (.lst [.str w, .int i, .str z]))
  generalize upd H12 l (.lst [.str w, .int i, .str z]) = H13 at I6 ⊢
  clear I0 I1 I2 I3 I4 I5 c1 c2 q3 hp3 f12 hT12 hv r1 A1 c0 p10 e9
  refine hN _ _ ?_; clear hN N
  refine sq fun N hN => ?_
  simp only [tSeq, tIfS, tTest, tOp, tV, tC, tAsg, gName, gSub, tRet, tRetN, tCB, tCons, tNil, tDrop, tNext, tAnd, tOr, tNot, tAndV, tOrV, tNotV, tIf, tTru, tUn, tCallS, WE, tTup, tLst, tSl, tPart, tNoPart, tPar, tChain, tBM, tBM0, tM0, tM1, gTup, gCons, gNil, tInC, gC, gN, tCallK, tCst, tRevL, ok_str, ok_int, ok_bool, ok_tuple, ok_list, ok_dict, sub_str, sub_tup, sub_lst, sub_bool, sub_int, sub_dict, Bool.not_true, Bool.not_false, kisS_none, kisS_bool, kisS_int, kisS_str, kisS_list, kisS_tuple, kisS_dict, kisT_none, kisT_bool, kisT_int, kisT_str, kisT_list, kisT_tuple, kisT_dict, kisL_none, kisL_bool, kisL_int, kisL_str, kisL_list, kisL_tuple, kisL_dict, kisB_none, kisB_bool, kisB_int, kisB_str, kisB_list, kisB_tuple, kisB_dict, kisI_none, kisI_bool, kisI_int, kisI_str, kisI_list, kisI_tuple, kisI_dict, kisIB_none, kisIB_bool, kisIB_int, kisIB_str, kisIB_list, kisIB_tuple, kisIB_dict, kisD_none, kisD_bool, kisD_int, kisD_str, kisD_list, kisD_tuple, kisD_dict, rEqU, rNeU, rAdd_1, rAdd_2, rAdd_3, rAdd_4, rSub_1, rMul_1, rMul_2, rMul_3, rDiv_1, rMod_1, rPow_1, rNeg_1, rLt_1, rLe_1, rLe_2, rGt_1, rGe_1, rIs_1, rIs_2, rIsNot_1, rIsNot_2, rMem_1, rItem_1, rItem_2, rStore_1, rLen_1, rLen_2, rInt_1, rInt_2, rMax_1, rMin_1, rList_1, rTuple_1, rAbs_1, rIsi_1, rSlice_1, rSlice_2, mAppend_1, mExtend_1, mPop_1, mPop_2, mInsert_1, mUpper_1, rInT_1, eqR_rr, eqR_rs, eqR_ri, eqR_rb, eqR_rn, eqR_sr, eqR_ir, eqR_br, eqR_nr, isCol_l, isCol_t, isCol_d, isSeq_l, isSeq_t, iAny, wipe, tYes, List.isEmpty_nil, List.isEmpty_cons, truN_non, truN_bl, truN_int, tyN_non, tyN_bl, tyN_int, tyN_str, keyOf, scal_nn, scal_nb, scal_ni, scal_ns, scal_nr, scal_bn, scal_bb, scal_bs, scal_br, scal_in, scal_ii, scal_is, scal_ir, scal_sn, scal_sb, scal_si, scal_ss, scal_sr, scal_rn, scal_rb, scal_ri, scal_rs, scal_rr, decide_true, decide_false, List.map_cons, List.map_nil, List.set_cons_zero, List.set_cons_succ, List.getElem?_cons_zero, List.getElem?_cons_succ, List.getElem?_nil, exists_eq_left, exists_eq_left', V.bl.injEq, V.int.injEq, V.str.injEq, V.ref.injEq, if_true, if_false, ite_true, ite_false, Bool.false_eq_true, eq_self, true_and, and_true, decide_eq_true_eq]
  refine ⟨tyV_l (by rw [I6.rd]; rfl), fun v1 H14 e14 L14 => ?_⟩
  refine one_strs ["hold", "keep", "change", "replace", "change", "replace"] I6.p.b e14 L14 (by decide) fun m H15 hm p15 => ?_
  have om : okItemB (.str m) = true := (show ∀ z ∈ (["hold", "keep", "change", "replace", "change", "replace"] : List Str), okItemB (.str z) = true by decide +kernel) m hm
  have I7 := I6.step p15
  simp only [I7.at_]
  refine ⟨by show 3 < sizeLine; decide, ?_⟩
  have I8 := I7.put (I7.A.append (.cons (.str m) .nil))
  have g8 : goodD [.str w, .int i, .str z, .str m] := ⟨by show 0 < 4 ∧ 4 ≤ 5; decide, ⟨w, _, rfl⟩, fun y hy => by
    simp only [List.mem_cons, List.not_mem_nil, or_false] at hy
    rcases hy with rfl | rfl | rfl | rfl
    · exact ow
    · exact oi
    · exact oz
    · exact om⟩
  change LstI t H l (upd H15 l (.lst [.str w, .int i, .str z, .str m])) [.str w, .int i, .str z, .str m] [.str w, .int i, .str z, .str m] at I8
  change N _ (upd H15 l (.lst [.str w, .int i, .str z, .str m]))
  generalize upd H15 l (.lst [.str w, .int i, .str z, .str m]) = H16 at I8 ⊢
  clear I6 I7 p15 hm L14 e14 g6
  refine hN _ _ ?_; clear hN N
  refine sq fun N hN => ?_
  simp only [tSeq, tIfS, tTest, tOp, tV, tC, tAsg, gName, gSub, tRet, tRetN, tCB, tCons, tNil, tDrop, tNext, tAnd, tOr, tNot, tAndV, tOrV, tNotV, tIf, tTru, tUn, tCallS, WE, tTup, tLst, tSl, tPart, tNoPart, tPar, tChain, tBM, tBM0, tM0, tM1, gTup, gCons, gNil, tInC, gC, gN, tCallK, tCst, tRevL, ok_str, ok_int, ok_bool, ok_tuple, ok_list, ok_dict, sub_str, sub_tup, sub_lst, sub_bool, sub_int, sub_dict, Bool.not_true, Bool.not_false, kisS_none, kisS_bool, kisS_int, kisS_str, kisS_list, kisS_tuple, kisS_dict, kisT_none, kisT_bool, kisT_int, kisT_str, kisT_list, kisT_tuple, kisT_dict, kisL_none, kisL_bool, kisL_int, kisL_str, kisL_list, kisL_tuple, kisL_dict, kisB_none, kisB_bool, kisB_int, kisB_str, kisB_list, kisB_tuple, kisB_dict, kisI_none, kisI_bool, kisI_int, kisI_str, kisI_list, kisI_tuple, kisI_dict, kisIB_none, kisIB_bool, kisIB_int, kisIB_str, kisIB_list, kisIB_tuple, kisIB_dict, kisD_none, kisD_bool, kisD_int, kisD_str, kisD_list, kisD_tuple, kisD_dict, rEqU, rNeU, rAdd_1, rAdd_2, rAdd_3, rAdd_4, rSub_1, rMul_1, rMul_2, rMul_3, rDiv_1, rMod_1, rPow_1, rNeg_1, rLt_1, rLe_1, rLe_2, rGt_1, rGe_1, rIs_1, rIs_2, rIsNot_1, rIsNot_2, rMem_1, rItem_1, rItem_2, rStore_1, rLen_1, rLen_2, rInt_1, rInt_2, rMax_1, rMin_1, rList_1, rTuple_1, rAbs_1, rIsi_1, rSlice_1, rSlice_2, mAppend_1, mExtend_1, mPop_1, mPop_2, mInsert_1, mUpper_1, rInT_1, eqR_rr, eqR_rs, eqR_ri, eqR_rb, eqR_rn, eqR_sr, eqR_ir, eqR_br, eqR_nr, isCol_l, isCol_t, isCol_d, isSeq_l, isSeq_t, iAny, wipe, tYes, List.isEmpty_nil, List.isEmpty_cons, truN_non, truN_bl, truN_int, tyN_non, tyN_bl, tyN_int, tyN_str, keyOf, scal_nn, scal_nb, scal_ni, scal_ns, scal_nr, scal_bn, scal_bb, scal_bs, scal_br, scal_in, scal_ii, scal_is, scal_ir, scal_sn, scal_sb, scal_si, scal_ss, scal_sr, scal_rn, scal_rb, scal_ri, scal_rs, scal_rr, decide_true, decide_false, List.map_cons, List.map_nil, List.set_cons_zero, List.set_cons_succ, List.getElem?_cons_zero, List.getElem?_cons_succ, List.getElem?_nil, exists_eq_left, exists_eq_left', V.bl.injEq, V.int.injEq, V.str.injEq, V.ref.injEq, if_true, if_false, ite_true, ite_false, Bool.false_eq_true, eq_self, true_and, and_true, decide_eq_true_eq]
  have b30 : (0 : Int) ≤ 30 ∧ (Builtin.Int.intBits 10 : Int) * 30 ≤ 2 ^ 27 := by decide
  refine ⟨b30, b30, b30, b30, by show 6 ≤ sizeLine; decide, fun p hp => ?_⟩
  have vs6 : ∀ v ∈ ([V.int 0, V.int (0 - 5), V.int (10 ^ Int.toNat 30 - 1), V.int (1 - 10 ^ Int.toNat 30), V.int (10 ^ Int.toNat 30), V.int (0 - 10 ^ Int.toNat 30)] : List V), ∃ j, v = .int j ∧ okItemB (.int j) = true := fun v hv => by
    simp only [List.mem_cons, List.not_mem_nil, or_false] at hv
    rcases hv with rfl | rfl | rfl | rfl | rfl | rfl <;> exact ⟨_, rfl, by decide +kernel⟩
  have l6 : ([V.int 0, V.int (0 - 5), V.int (10 ^ Int.toNat 30 - 1), V.int (1 - 10 ^ Int.toNat 30), V.int (10 ^ Int.toNat 30), V.int (0 - 10 ^ Int.toNat 30)] : List V).length = 6 := rfl
  generalize ([V.int 0, V.int (0 - 5), V.int (10 ^ Int.toNat 30 - 1), V.int (1 - 10 ^ Int.toNat 30), V.int (10 ^ Int.toNat 30), V.int (0 - 10 ^ Int.toNat 30)] : List V) = vals at vs6 l6 ⊢
  have I9 := I8.step (Tp.of_ext I8.p.b (Ext.new (o := .lst vals) hp))
  have rp : rdo (upd H16 p (.lst vals)) p = some (.lst vals) := rdo_of upd_same (fun _ _ z => nomatch z)
  generalize upd H16 p (.lst vals) = H17 at I9 rp ⊢
  clear I8 hp b30
  refine hN _ _ ?_; clear hN N
  simp only [tSeq, tIfS, tTest, tOp, tV, tC, tAsg, gName, gSub, tRet, tRetN, tCB, tCons, tNil, tDrop, tNext, tAnd, tOr, tNot, tAndV, tOrV, tNotV, tIf, tTru, tUn, tCallS, WE, tTup, tLst, tSl, tPart, tNoPart, tPar, tChain, tBM, tBM0, tM0, tM1, gTup, gCons, gNil, tInC, gC, gN, tCallK, tCst, tRevL, ok_str, ok_int, ok_bool, ok_tuple, ok_list, ok_dict, sub_str, sub_tup, sub_lst, sub_bool, sub_int, sub_dict, Bool.not_true, Bool.not_false, kisS_none, kisS_bool, kisS_int, kisS_str, kisS_list, kisS_tuple, kisS_dict, kisT_none, kisT_bool, kisT_int, kisT_str, kisT_list, kisT_tuple, kisT_dict, kisL_none, kisL_bool, kisL_int, kisL_str, kisL_list, kisL_tuple, kisL_dict, kisB_none, kisB_bool, kisB_int, kisB_str, kisB_list, kisB_tuple, kisB_dict, kisI_none, kisI_bool, kisI_int, kisI_str, kisI_list, kisI_tuple, kisI_dict, kisIB_none, kisIB_bool, kisIB_int, kisIB_str, kisIB_list, kisIB_tuple, kisIB_dict, kisD_none, kisD_bool, kisD_int, kisD_str, kisD_list, kisD_tuple, kisD_dict, rEqU, rNeU, rAdd_1, rAdd_2, rAdd_3, rAdd_4, rSub_1, rMul_1, rMul_2, rMul_3, rDiv_1, rMod_1, rPow_1, rNeg_1, rLt_1, rLe_1, rLe_2, rGt_1, rGe_1, rIs_1, rIs_2, rIsNot_1, rIsNot_2, rMem_1, rItem_1, rItem_2, rStore_1, rLen_1, rLen_2, rInt_1, rInt_2, rMax_1, rMin_1, rList_1, rTuple_1, rAbs_1, rIsi_1, rSlice_1, rSlice_2, mAppend_1, mExtend_1, mPop_1, mPop_2, mInsert_1, mUpper_1, rInT_1, eqR_rr, eqR_rs, eqR_ri, eqR_rb, eqR_rn, eqR_sr, eqR_ir, eqR_br, eqR_nr, isCol_l, isCol_t, isCol_d, isSeq_l, isSeq_t, iAny, wipe, tYes, List.isEmpty_nil, List.isEmpty_cons, truN_non, truN_bl, truN_int, tyN_non, tyN_bl, tyN_int, tyN_str, keyOf, scal_nn, scal_nb, scal_ni, scal_ns, scal_nr, scal_bn, scal_bb, scal_bs, scal_br, scal_in, scal_ii, scal_is, scal_ir, scal_sn, scal_sb, scal_si, scal_ss, scal_sr, scal_rn, scal_rb, scal_ri, scal_rs, scal_rr, decide_true, decide_false, List.map_cons, List.map_nil, List.set_cons_zero, List.set_cons_succ, List.getElem?_cons_zero, List.getElem?_cons_succ, List.getElem?_nil, exists_eq_left, exists_eq_left', V.bl.injEq, V.int.injEq, V.str.injEq, V.ref.injEq, if_true, if_false, ite_true, ite_false, Bool.false_eq_true, eq_self, true_and, and_true, decide_eq_true_eq]
  refine Or.inl ⟨t, p, vals, rfl, I9.p.b, Or.inl rp, by omega, fun v H18 hv f18 hT18 => ?_⟩
  have I10 := I9.step (Tp.of_fr I9.p.b hT18 f18)
  obtain ⟨j, rfl, oj⟩ := vs6 v hv
  refine ⟨by show 1 ≤ sizeLine; decide, fun q hq => ?_⟩
  simp only [upd_same]
  have I11 := I10.step (Tp.of_ext I10.p.b (Ext.new (o := .lst [V.int j]) hq))
  generalize upd H18 q (.lst [V.int j]) = H19 at I11 ⊢
  have hk : (if w = "change" then (1 : Int) else 0) = 1 ∨ (if w = "change" then (1 : Int) else 0) = 0 := by
    split
    · exact Or.inl rfl
    · exact Or.inr rfl
  rcases hk with e | e
  · rw [e]
    refine ⟨⟨by decide, by decide, by show 1 * 1 ≤ sizeLine; decide⟩, fun q2 hq2 => ?_⟩
    rw [show (List.replicate (Int.toNat 1) [V.int j]).flatten = [V.int j] from rfl]
    have I12 := I11.step (Tp.of_ext I11.p.b (Ext.new (o := .lst [V.int j]) hq2))
    generalize upd H19 q2 (.lst [V.int j]) = H20 at I12 ⊢
    simp only [I12.at_]
    refine ⟨by show 4 + 1 ≤ sizeLine; decide, fun q3 hq3 => ?_⟩
    exact k q3 _ [.str w, .int i, .str z, .str m, .int j] _ (I12.fresh hq3 (I12.A.append (.cons (.int j) .nil))) ⟨by show 0 < 5 ∧ 5 ≤ 5; decide, ⟨w, _, rfl⟩, fun y hy => by
      rcases List.mem_append.mp (show y ∈ [PyData.str w, .int i, .str z, .str m] ++ [.int j] from hy) with hy | hy
      · exact g8.2.2 y hy
      · rw [List.mem_singleton.mp hy]
        exact oj⟩
  · rw [e]
    refine ⟨⟨by decide, by decide, by show 1 * 0 ≤ sizeLine; decide⟩, fun q2 hq2 => ?_⟩
    rw [show (List.replicate (Int.toNat 0) [V.int j]).flatten = [] from rfl]
    have I12 := I11.step (Tp.of_ext I11.p.b (Ext.new (o := .lst []) hq2))
    generalize upd H19 q2 (.lst []) = H20 at I12 ⊢
    simp only [I12.at_]
    refine ⟨by show 4 + 0 ≤ sizeLine; decide, fun q3 hq3 => ?_⟩
    exact k q3 _ [.str w, .int i, .str z, .str m] _ (I12.fresh hq3 (by rw [List.append_nil]; exact I12.A)) g8
end
end Rm
namespace Rm
open PySem PySem.Spec L2
open PyProof.Rows hiding St
abbrev s_law : Stmt := topS 30
theorem sc_law : FnScope ["_law_script", "_law_start", "_law_tape_here", "_law_turn", "_law_some", "_law_road", "_law_at", "_law_k", "_law_item", "_law_seen"] ["_law_script"] (defScope s_law) := ⟨rfl, rfl, rfl, by decide +kernel, rfl, by decide +kernel, by decide +kernel⟩
theorem ScriptAt.ext {K : PySem.W.Frag} {H H' : Hp} {a : Addr} {ns : List Int} (h : ScriptAt K H a ns) (e : Ext H H') : ScriptAt K H' a ns := by
  obtain ⟨x, y⟩ := h
  refine ⟨?_, y⟩
  rcases x with (x | ⟨o, x⟩) | x
  · exact Or.inl (Or.inl (e _ _ x))
  · exact Or.inl (Or.inr ⟨o, e _ _ x⟩)
  · exact Or.inr x
theorem any_fine : ∀ d ∈ anyDs, Fine 3000 3 d := by
  have : anyDs.all (fineB 3000 3) = true := by decide +kernel
  exact fun d hd => List.all_eq_true.mp this d hd
theorem Fine.all {d : PyData} (h : Fine 60000 4 d) : allTxt d := fun ds e x hx => by
  subst e
  exact Fine.txt (Fine.of_tup (k := 3) h x hx) (by decide)
def sp_law (K : PySem.W.Frag) : Sp := fun vs H Q _ => ∃ (a : Addr) (ns : List Int), vs = [.ref a] ∧ ScriptAt K H a ns ∧ ∀ H', Q (.bl true) H'
section
variable {P : Program} {w : World} {K : PySem.W.Frag} {mg : Str → Option Value} {base : Heap}
theorem ok_law {f0 : Addr} {fd0 : FuncData} (F : At K mg "law" "law" s_law ["_law_script"] f0 fd0) (B : Bt mg)  (KW_is_operation_0_value : Kw P w K mg base "is_operation" 0 ["value"] 4 sp_is_operation (fun vs zs => zs)) (D_law_tape : Def P w K mg base "_law_tape" ["_law_script", "_law_start"] 1 (sp_law_tape K)) (D_is_operation : Def P w K mg base "is_operation" ["value"] 4 sp_is_operation) (D_law_good : Def P w K mg base "_law_good" ["_law_tape_here"] 4 sp_law_good) (D_law_pick : Def P w K mg base "_law_pick" ["_law_tape_here", "_law_many"] 1 sp_law_pick) (D_law_any : Def P w K mg base "_law_any" ["_law_tape_here"] 3 sp_law_any) (D_law_one_of : Def P w K mg base "_law_one_of" ["_law_tape_here", "_law_items"] 2 sp_law_one_of) (D_law_bent_word : Def P w K mg base "_law_bent_word" ["_law_tape_here", "_law_word"] 3 sp_law_bent_word) (D_law_is_deed : Def P w K mg base "_law_is_deed" ["_law_item"] 2 sp_law_is_deed) : DefG P w K mg base "law" ["_law_script"] 5 (sp_law K) := by
  refine okDG F sc_law (fun vs H Q E h => by obtain ⟨_, _, rfl, _⟩ := h; rfl) (fun cdv A outer s H vs Q E hG hr tk po h => ?_)
  have hu := hu_of hr
  have hu64 := hr.units
  have hc := (show (true : Bool) = true from rfl)
  have nd := sc_law.nd
  have hu100 := room100 hr
  refine ⟨_, (pss_cons (ps_for po hc (pi_range1 (by rfl) B.range (pa_cons (pe_callB (callMax hc) (by rfl) B.max bt_max (pa_cons pe_int (pa_cons (pe_callB (callMin hc) (by rfl) B.min bt_min (pa_cons pe_int (pa_cons (pe_callB call_len_seq (by rfl) B.len bt_len (pa_cons (pn 0) pa_nil)) pa_nil))) pa_nil))) pa_nil)) (pg_name (i := 1) nd rfl (Or.inl rfl)) (pss_cons (ps_set (i := 2) nd rfl (Or.inl rfl) (pe_fn D_law_tape (hr.mono (by decide)) tk (pa_cons (pn 0) (pa_cons (pn 1) pa_nil))))
      (pss_one (ps_for po hc (pi_range1 (by rfl) B.range (pa_cons pe_int pa_nil)) (pg_name (i := 3) nd rfl (Or.inl rfl)) (pss_cons (ps_asg (pe_tup (pa_cons (pe_fn D_law_good (hr.mono (by decide)) tk (pa_cons (pn 2) pa_nil)) (pa_cons (pe_fn D_law_pick (hr.mono (by decide)) tk (pa_cons (pn 2) (pa_cons pe_int pa_nil))) pa_nil))) (pg_tup (by rfl) (pgs_cons (pg_name (i := 4) nd rfl (Or.inr rfl)) (pgs_cons (pg_name (i := 5) nd rfl (Or.inl rfl)) pgs_nil))))
      (pss_cons (ps_if (pt_cmpR (opEq hu64) (pn 5) pe_int (nomark _)) (pss_one (ps_asg (pe_fn D_law_any (hr.mono (by decide)) tk (pa_cons (pn 2) pa_nil)) (pg_sub (pn 4) (pe_fn D_law_pick (hr.mono (by decide)) tk (pa_cons (pn 2) (pa_cons (pe_callB callLen (by rfl) B.len bt_len (pa_cons (pn 4) pa_nil)) pa_nil))) (setStore hu)))) pss_nil)
      (pss_cons (ps_if (pt_cmpR (opEq hu64) (pn 5) pe_int (nomark _)) (pss_one (ps_expr (pe_bm PySem.F.plainAttrs_list PySem.F.slot_list_insert PySem.F.type_list_insert mtInsert (pn 4) (pa_cons (pe_fn D_law_pick (hr.mono (by decide)) tk (pa_cons (pn 2) (pa_cons (pe_op opAdd (pe_callB callLen (by rfl) B.len bt_len (pa_cons (pn 4) pa_nil)) pe_int) pa_nil))) (pa_cons (pe_fn D_law_any (hr.mono (by decide)) tk (pa_cons (pn 2) pa_nil)) pa_nil))))) pss_nil)
      (pss_cons (ps_if (pt_cmpR (opEq hu64) (pn 5) pe_int (nomark _)) (pss_one (ps_expr (pe_bm PySem.F.plainAttrs_list PySem.F.slot_list_pop PySem.F.type_list_pop mtPop (pn 4) (pa_cons (pe_fn D_law_pick (hr.mono (by decide)) tk (pa_cons (pn 2) (pa_cons (pe_callB callLen (by rfl) B.len bt_len (pa_cons (pn 4) pa_nil)) pa_nil))) pa_nil)))) pss_nil)
      (pss_cons (ps_if (pt_cmpR (opEq hu64) (pn 5) pe_int (nomark _)) (pss_cons (ps_set (i := 6) nd rfl (Or.inl rfl) (pe_fn D_law_one_of (hr.mono (by decide)) tk (pa_cons (pn 2) (pa_cons (pe_lc (own := [("_law_k", 7)]) hc nd (pi_range1 (by rfl) B.range (pa_cons (pe_callB callLen (by rfl) B.len bt_len (pa_cons (pn 4) pa_nil)) pa_nil)) (blkOk_by (own := [("_law_k", 7)]) (N := ["_law_script", "_law_start", "_law_tape_here", "_law_turn", "_law_some", "_law_road", "_law_at", "_law_k", "_law_item", "_law_seen"]) (sc := defScope s_law) (by decide +kernel)) (fun _ _ _ _ _ => (pg_name (i := 7) nd rfl (Or.inl rfl))) (fun _ _ _ _ _ => pts_one (pt_tru (pe_callB callIsi (by rfl) B.isinstance boot_isinstance (pa_cons (pe_ix (ixItem hu) (pn 4) (pn 7) (fun _ _ => rfl)) (pa_cons (pe_bltn (v := .ty "str") (by rfl) B.str boot_str rfl) pa_nil))))) (fun _ _ _ _ _ => (pn 7))) pa_nil))))
      (pss_one (ps_asg (pe_fn D_law_bent_word (hr.mono (by decide)) tk (pa_cons (pn 2) (pa_cons (pe_op opAdd (pe_ix (ixItem hu) (pn 4) (pn 6) (fun _ _ => rfl)) (pe_op opMul pe_str (pe_callTy callInt (by rfl) B.int boot_int (pa_cons (pe_cmpR (opEq hu64) (pe_ix (ixItem hu) (pn 4) (pn 6) (fun _ _ => rfl)) pe_str (nomark _)) pa_nil)))) pa_nil))) (pg_sub (pn 4) (pn 6) (setStore hu))))) pss_nil)
      (pss_cons (ps_set (i := 8) nd rfl (Or.inl rfl) (pe_ifExp (pt_cmpR (opEq hu64) (pn 5) pe_int (nomark _)) (pn 4) (pe_callTy callTuple (by rfl) B.tuple boot_tuple (pa_cons (pn 4) pa_nil))))
      (pss_cons (ps_set (i := 8) nd rfl (Or.inl rfl) (pe_ifExp (pt_cmpR (opEq hu64) (pn 5) pe_int (nomark _)) (pe_fn D_law_any (hr.mono (by decide)) tk (pa_cons (pn 2) pa_nil)) (pn 8)))
      (pss_cons (ps_set (i := 9) nd rfl (Or.inl rfl) (pe_callB (call_repr hG hu100) (by rfl) B.repr boot_repr (pa_cons (pn 8) pa_nil)))
      (pss_one (ps_if (PW.pt (pw_or (pt_cmpR (opNe hu64) (pe_callB (call_repr hG hu100) (by rfl) B.repr boot_repr (pa_cons (pe_fn D_is_operation (hr.mono (by decide)) tk (pa_cons (pn 8) pa_nil)) pa_nil)) (pe_callB (call_repr hG hu100) (by rfl) B.repr boot_repr (pa_cons (pe_fn D_law_is_deed (hr.mono (by decide)) tk (pa_cons (pn 8) pa_nil)) pa_nil)) (nomark _)) (pw_or1 (pt_cmpR (opNe hu64) (pe_callB (call_repr hG hu100) (by rfl) B.repr boot_repr (pa_cons (pn 8) pa_nil)) (pn 9) (nomark _))))) (pss_one (ps_ret pe_bl)) pss_nil))))))))))))))
      (pss_one (ps_ret (pe_and (pe_cmpR opIs (pe_fnK0 KW_is_operation_0_value (hr.mono (by decide)) tk (pk_cons (li_tup (la_cons li_str la_nil)) pk_nil)) pe_bl (nomark _)) (pe_one (pe_cmpR opIs (pe_fn D_is_operation (hr.mono (by decide)) tk (pa_cons (li_tup (la_cons li_str (la_cons li_int (la_cons li_str (la_cons li_str (la_cons li_int la_nil)))))) pa_nil)) pe_bl (nomark _))))))), ?_⟩
  clear hu hu64 hc nd tk po hG hu100 hr B D_law_tape D_is_operation D_law_good D_law_pick D_law_any D_law_one_of D_law_bent_word D_law_is_deed KW_is_operation_0_value
  obtain ⟨a, ns, rfl, hS, k⟩ := h
  rw [show L2.start _ _ = [some (.ref a), none, none, none, none, none, none, none, none, none] from rfl]
  refine sq fun N hN => ?_
  suffices fin : ∀ s1 s2 s3 s4 s5 s6 s7 s8 s9 H', N [some (.ref a), s1, s2, s3, s4, s5, s6, s7, s8, s9] H' by
    refine ⟨a, ns.map V.int, rfl, Or.inl hS.1, ?_⟩
    rw [List.length_map]
    generalize hj : (if (if (ns.length : Int) < 3 then (ns.length : Int) else 3) > 1 then (if (ns.length : Int) < 3 then (ns.length : Int) else 3) else 1) = j
    have hj1 : 1 ≤ j ∧ j ≤ 3 := by
      rw [← hj]
      split <;> split <;> omega
    refine ⟨j, by rw [← hj], by omega, by omega, ?_⟩
    refine for_range (lo := 0) (n := j.toNat) (fun i σ H' => Ext H H' ∧ ∃ s1 s2 s3 s4 s5 s6 s7 s8 s9, σ = [some (.ref a), s1, s2, s3, s4, s5, s6, s7, s8, s9]) ⟨Ext.refl H, _, _, _, _, _, _, _, _, _, rfl⟩ (fun i σ H' hi p => ?_) (fun σ H' p => ?_)
    rotate_left
    · obtain ⟨e, s1, s2, s3, s4, s5, s6, s7, s8, s9, rfl⟩ := p
      exact fin _ _ _ _ _ _ _ _ _ _
    obtain ⟨e, s1, s2, s3, s4, s5, s6, s7, s8, s9, rfl⟩ := p
    have hS1 := hS.ext e
    clear fin
    simp only [tSeq, tIfS, tTest, tOp, tV, tC, tAsg, gName, gSub, tRet, tRetN, tCB, tCons, tNil, tDrop, tNext, tAnd, tOr, tNot, tAndV, tOrV, tNotV, tIf, tTru, tUn, tCallS, WE, tTup, tLst, tSl, tPart, tNoPart, tPar, tChain, tBM, tBM0, tM0, tM1, gTup, gCons, gNil, tInC, gC, gN, tCallK, tCst, tRevL, ok_str, ok_int, ok_bool, ok_tuple, ok_list, ok_dict, sub_str, sub_tup, sub_lst, sub_bool, sub_int, sub_dict, Bool.not_true, Bool.not_false, kisS_none, kisS_bool, kisS_int, kisS_str, kisS_list, kisS_tuple, kisS_dict, kisT_none, kisT_bool, kisT_int, kisT_str, kisT_list, kisT_tuple, kisT_dict, kisL_none, kisL_bool, kisL_int, kisL_str, kisL_list, kisL_tuple, kisL_dict, kisB_none, kisB_bool, kisB_int, kisB_str, kisB_list, kisB_tuple, kisB_dict, kisI_none, kisI_bool, kisI_int, kisI_str, kisI_list, kisI_tuple, kisI_dict, kisIB_none, kisIB_bool, kisIB_int, kisIB_str, kisIB_list, kisIB_tuple, kisIB_dict, kisD_none, kisD_bool, kisD_int, kisD_str, kisD_list, kisD_tuple, kisD_dict, rEqU, rNeU, rAdd_1, rAdd_2, rAdd_3, rAdd_4, rSub_1, rMul_1, rMul_2, rMul_3, rDiv_1, rMod_1, rPow_1, rNeg_1, rLt_1, rLe_1, rLe_2, rGt_1, rGe_1, rIs_1, rIs_2, rIsNot_1, rIsNot_2, rMem_1, rItem_1, rItem_2, rStore_1, rLen_1, rLen_2, rInt_1, rInt_2, rMax_1, rMin_1, rList_1, rTuple_1, rAbs_1, rIsi_1, rSlice_1, rSlice_2, mAppend_1, mExtend_1, mPop_1, mPop_2, mInsert_1, mUpper_1, rInT_1, eqR_rr, eqR_rs, eqR_ri, eqR_rb, eqR_rn, eqR_sr, eqR_ir, eqR_br, eqR_nr, isCol_l, isCol_t, isCol_d, isSeq_l, isSeq_t, iAny, wipe, tYes, List.isEmpty_nil, List.isEmpty_cons, truN_non, truN_bl, truN_int, tyN_non, tyN_bl, tyN_int, tyN_str, keyOf, scal_nn, scal_nb, scal_ni, scal_ns, scal_nr, scal_bn, scal_bb, scal_bs, scal_br, scal_in, scal_ii, scal_is, scal_ir, scal_sn, scal_sb, scal_si, scal_ss, scal_sr, scal_rn, scal_rb, scal_ri, scal_rs, scal_rr, decide_true, decide_false, List.map_cons, List.map_nil, List.set_cons_zero, List.set_cons_succ, List.getElem?_cons_zero, List.getElem?_cons_succ, List.getElem?_nil, exists_eq_left, exists_eq_left', V.bl.injEq, V.int.injEq, V.str.injEq, V.ref.injEq, if_true, if_false, ite_true, ite_false, Bool.false_eq_true, eq_self, true_and, and_true, decide_eq_true_eq]
    refine ⟨a, ns, _, rfl, hS1, by omega, fun t H1 ht fr hT => ?_⟩
    have e1 : Ext H' H1 := fun b o z => by rw [fr b (ne_of_none z ht)]; exact z
    refine ⟨24, rfl, by decide, by decide, ?_⟩
    refine for_range (lo := 0) (n := 24) (fun i' σ H2 => Tp t H1 H2 ∧ ∃ x3 x4 x5 x6 x7 x8 x9, σ = [some (.ref a), some (.int (0 + i)), some (.ref t), x3, x4, x5, x6, x7, x8, x9]) ⟨Tp.refl hT, _, _, _, _, _, _, _, rfl⟩ (fun i' σ H2 hi' p => ?_) (fun σ H2 p => ?_)
    rotate_left
    · obtain ⟨p, x3, x4, x5, x6, x7, x8, x9, rfl⟩ := p
      exact ⟨fun b o q => p.x b o (ne_of_none (e b o q) ht) (e1 b o (e b o q)), _, _, _, _, _, _, _, _, _, rfl⟩
    obtain ⟨p2, x3, x4, x5, x6, x7, x8, x9, rfl⟩ := p
    clear hS hS1 e e1 fr ht
    refine sq fun N hN => ?_
    simp only [tSeq, tIfS, tTest, tOp, tV, tC, tAsg, gName, gSub, tRet, tRetN, tCB, tCons, tNil, tDrop, tNext, tAnd, tOr, tNot, tAndV, tOrV, tNotV, tIf, tTru, tUn, tCallS, WE, tTup, tLst, tSl, tPart, tNoPart, tPar, tChain, tBM, tBM0, tM0, tM1, gTup, gCons, gNil, tInC, gC, gN, tCallK, tCst, tRevL, ok_str, ok_int, ok_bool, ok_tuple, ok_list, ok_dict, sub_str, sub_tup, sub_lst, sub_bool, sub_int, sub_dict, Bool.not_true, Bool.not_false, kisS_none, kisS_bool, kisS_int, kisS_str, kisS_list, kisS_tuple, kisS_dict, kisT_none, kisT_bool, kisT_int, kisT_str, kisT_list, kisT_tuple, kisT_dict, kisL_none, kisL_bool, kisL_int, kisL_str, kisL_list, kisL_tuple, kisL_dict, kisB_none, kisB_bool, kisB_int, kisB_str, kisB_list, kisB_tuple, kisB_dict, kisI_none, kisI_bool, kisI_int, kisI_str, kisI_list, kisI_tuple, kisI_dict, kisIB_none, kisIB_bool, kisIB_int, kisIB_str, kisIB_list, kisIB_tuple, kisIB_dict, kisD_none, kisD_bool, kisD_int, kisD_str, kisD_list, kisD_tuple, kisD_dict, rEqU, rNeU, rAdd_1, rAdd_2, rAdd_3, rAdd_4, rSub_1, rMul_1, rMul_2, rMul_3, rDiv_1, rMod_1, rPow_1, rNeg_1, rLt_1, rLe_1, rLe_2, rGt_1, rGe_1, rIs_1, rIs_2, rIsNot_1, rIsNot_2, rMem_1, rItem_1, rItem_2, rStore_1, rLen_1, rLen_2, rInt_1, rInt_2, rMax_1, rMin_1, rList_1, rTuple_1, rAbs_1, rIsi_1, rSlice_1, rSlice_2, mAppend_1, mExtend_1, mPop_1, mPop_2, mInsert_1, mUpper_1, rInT_1, eqR_rr, eqR_rs, eqR_ri, eqR_rb, eqR_rn, eqR_sr, eqR_ir, eqR_br, eqR_nr, isCol_l, isCol_t, isCol_d, isSeq_l, isSeq_t, iAny, wipe, tYes, List.isEmpty_nil, List.isEmpty_cons, truN_non, truN_bl, truN_int, tyN_non, tyN_bl, tyN_int, tyN_str, keyOf, scal_nn, scal_nb, scal_ni, scal_ns, scal_nr, scal_bn, scal_bb, scal_bs, scal_br, scal_in, scal_ii, scal_is, scal_ir, scal_sn, scal_sb, scal_si, scal_ss, scal_sr, scal_rn, scal_rb, scal_ri, scal_rs, scal_rr, decide_true, decide_false, List.map_cons, List.map_nil, List.set_cons_zero, List.set_cons_succ, List.getElem?_cons_zero, List.getElem?_cons_succ, List.getElem?_nil, exists_eq_left, exists_eq_left', V.bl.injEq, V.int.injEq, V.str.injEq, V.ref.injEq, if_true, if_false, ite_true, ite_false, Bool.false_eq_true, eq_self, true_and, and_true, decide_eq_true_eq]
    refine ⟨t, rfl, p2.b, fun l xs ds H3 I0 g0 => ?_⟩
    refine ⟨t, _, rfl, I0.p.b, ⟨by decide, by decide⟩, fun r H4 r0 r1 f4 hT4 => ?_⟩
    replace I0 := I0.step (Tp.of_fr I0.p.b hT4 f4)
    clear f4 hT4
    refine ⟨by show 2 ≤ sizeLine; decide, fun p hp => ⟨p, [.ref l, .int r], rfl, rdo_t (rdo_of upd_same (fun _ _ z => nomatch z)), rfl, _, _, rfl, _, _, rfl, rfl, ?_⟩⟩
    replace I0 := I0.step (Tp.of_ext I0.p.b (Ext.new (o := .tup [.ref l, .int r]) hp))
    generalize upd H4 p (.tup [.ref l, .int r]) = H5 at I0 ⊢
    clear hp
    have f0 : ∀ d ∈ ds, Fine 3000 3 d := fun d hd => okItem_fine (g0.2.2 d hd)
    have z0 : ds.length ≤ 6 := by have := g0.1; omega
    have c0 : goodD ds ∨ r ≤ -1 := Or.inl g0
    have big : 1000 ≤ sizeLine := by decide
    clear g0 H3 H4
    refine hN _ _ ?_; clear hN N
    -- an item changed
    refine sq fun N hN => ?_
    suffices go : ∀ xs ds H', LstI t H2 l H' xs ds → (∀ d ∈ ds, Fine 3000 3 d) → ds.length ≤ 6 → (goodD ds ∨ r ≤ 0) → N [some (.ref a), some (.int (0 + i)), some (.ref t), some (.int (0 + i')), some (.ref l), some (.int r), x6, x7, x8, x9] H' by
      simp only [tSeq, tIfS, tTest, tOp, tV, tC, tAsg, gName, gSub, tRet, tRetN, tCB, tCons, tNil, tDrop, tNext, tAnd, tOr, tNot, tAndV, tOrV, tNotV, tIf, tTru, tUn, tCallS, WE, tTup, tLst, tSl, tPart, tNoPart, tPar, tChain, tBM, tBM0, tM0, tM1, gTup, gCons, gNil, tInC, gC, gN, tCallK, tCst, tRevL, ok_str, ok_int, ok_bool, ok_tuple, ok_list, ok_dict, sub_str, sub_tup, sub_lst, sub_bool, sub_int, sub_dict, Bool.not_true, Bool.not_false, kisS_none, kisS_bool, kisS_int, kisS_str, kisS_list, kisS_tuple, kisS_dict, kisT_none, kisT_bool, kisT_int, kisT_str, kisT_list, kisT_tuple, kisT_dict, kisL_none, kisL_bool, kisL_int, kisL_str, kisL_list, kisL_tuple, kisL_dict, kisB_none, kisB_bool, kisB_int, kisB_str, kisB_list, kisB_tuple, kisB_dict, kisI_none, kisI_bool, kisI_int, kisI_str, kisI_list, kisI_tuple, kisI_dict, kisIB_none, kisIB_bool, kisIB_int, kisIB_str, kisIB_list, kisIB_tuple, kisIB_dict, kisD_none, kisD_bool, kisD_int, kisD_str, kisD_list, kisD_tuple, kisD_dict, rEqU, rNeU, rAdd_1, rAdd_2, rAdd_3, rAdd_4, rSub_1, rMul_1, rMul_2, rMul_3, rDiv_1, rMod_1, rPow_1, rNeg_1, rLt_1, rLe_1, rLe_2, rGt_1, rGe_1, rIs_1, rIs_2, rIsNot_1, rIsNot_2, rMem_1, rItem_1, rItem_2, rStore_1, rLen_1, rLen_2, rInt_1, rInt_2, rMax_1, rMin_1, rList_1, rTuple_1, rAbs_1, rIsi_1, rSlice_1, rSlice_2, mAppend_1, mExtend_1, mPop_1, mPop_2, mInsert_1, mUpper_1, rInT_1, eqR_rr, eqR_rs, eqR_ri, eqR_rb, eqR_rn, eqR_sr, eqR_ir, eqR_br, eqR_nr, isCol_l, isCol_t, isCol_d, isSeq_l, isSeq_t, iAny, wipe, tYes, List.isEmpty_nil, List.isEmpty_cons, truN_non, truN_bl, truN_int, tyN_non, tyN_bl, tyN_int, tyN_str, keyOf, scal_nn, scal_nb, scal_ni, scal_ns, scal_nr, scal_bn, scal_bb, scal_bs, scal_br, scal_in, scal_ii, scal_is, scal_ir, scal_sn, scal_sb, scal_si, scal_ss, scal_sr, scal_rn, scal_rb, scal_ri, scal_rs, scal_rr, decide_true, decide_false, List.map_cons, List.map_nil, List.set_cons_zero, List.set_cons_succ, List.getElem?_cons_zero, List.getElem?_cons_succ, List.getElem?_nil, exists_eq_left, exists_eq_left', V.bl.injEq, V.int.injEq, V.str.injEq, V.ref.injEq, if_true, if_false, ite_true, ite_false, Bool.false_eq_true, eq_self, true_and, and_true, decide_eq_true_eq]
      refine ite2 (fun hr => ?_) (fun _ => go _ _ _ I0 f0 z0 (c0.imp_right (by omega)))
      have g0 := c0.resolve_right (by omega)
      refine ⟨t, rfl, I0.p.b, fun v d H9 hd dv p9 => ?_⟩
      have I1 := I0.step p9
      simp only [tSeq, tIfS, tTest, tOp, tV, tC, tAsg, gName, gSub, tRet, tRetN, tCB, tCons, tNil, tDrop, tNext, tAnd, tOr, tNot, tAndV, tOrV, tNotV, tIf, tTru, tUn, tCallS, WE, tTup, tLst, tSl, tPart, tNoPart, tPar, tChain, tBM, tBM0, tM0, tM1, gTup, gCons, gNil, tInC, gC, gN, tCallK, tCst, tRevL, ok_str, ok_int, ok_bool, ok_tuple, ok_list, ok_dict, sub_str, sub_tup, sub_lst, sub_bool, sub_int, sub_dict, Bool.not_true, Bool.not_false, kisS_none, kisS_bool, kisS_int, kisS_str, kisS_list, kisS_tuple, kisS_dict, kisT_none, kisT_bool, kisT_int, kisT_str, kisT_list, kisT_tuple, kisT_dict, kisL_none, kisL_bool, kisL_int, kisL_str, kisL_list, kisL_tuple, kisL_dict, kisB_none, kisB_bool, kisB_int, kisB_str, kisB_list, kisB_tuple, kisB_dict, kisI_none, kisI_bool, kisI_int, kisI_str, kisI_list, kisI_tuple, kisI_dict, kisIB_none, kisIB_bool, kisIB_int, kisIB_str, kisIB_list, kisIB_tuple, kisIB_dict, kisD_none, kisD_bool, kisD_int, kisD_str, kisD_list, kisD_tuple, kisD_dict, rEqU, rNeU, rAdd_1, rAdd_2, rAdd_3, rAdd_4, rSub_1, rMul_1, rMul_2, rMul_3, rDiv_1, rMod_1, rPow_1, rNeg_1, rLt_1, rLe_1, rLe_2, rGt_1, rGe_1, rIs_1, rIs_2, rIsNot_1, rIsNot_2, rMem_1, rItem_1, rItem_2, rStore_1, rLen_1, rLen_2, rInt_1, rInt_2, rMax_1, rMin_1, rList_1, rTuple_1, rAbs_1, rIsi_1, rSlice_1, rSlice_2, mAppend_1, mExtend_1, mPop_1, mPop_2, mInsert_1, mUpper_1, rInT_1, eqR_rr, eqR_rs, eqR_ri, eqR_rb, eqR_rn, eqR_sr, eqR_ir, eqR_br, eqR_nr, isCol_l, isCol_t, isCol_d, isSeq_l, isSeq_t, iAny, wipe, tYes, List.isEmpty_nil, List.isEmpty_cons, truN_non, truN_bl, truN_int, tyN_non, tyN_bl, tyN_int, tyN_str, keyOf, scal_nn, scal_nb, scal_ni, scal_ns, scal_nr, scal_bn, scal_bb, scal_bs, scal_br, scal_in, scal_ii, scal_is, scal_ir, scal_sn, scal_sb, scal_si, scal_ss, scal_sr, scal_rn, scal_rb, scal_ri, scal_rs, scal_rr, decide_true, decide_false, List.map_cons, List.map_nil, List.set_cons_zero, List.set_cons_succ, List.getElem?_cons_zero, List.getElem?_cons_succ, List.getElem?_nil, exists_eq_left, exists_eq_left', V.bl.injEq, V.int.injEq, V.str.injEq, V.ref.injEq, if_true, if_false, ite_true, ite_false, Bool.false_eq_true, eq_self, true_and, and_true, decide_eq_true_eq, I1.rd]
      have hl := I1.len
      have g1 := g0.1
      refine ⟨t, _, rfl, I1.p.b, ⟨by omega, by omega⟩, fun j H10 hj0 hj1 f10 hT10 => ?_⟩
      have I2 := I1.step (Tp.of_fr I1.p.b hT10 f10)
      simp only [tSeq, tIfS, tTest, tOp, tV, tC, tAsg, gName, gSub, tRet, tRetN, tCB, tCons, tNil, tDrop, tNext, tAnd, tOr, tNot, tAndV, tOrV, tNotV, tIf, tTru, tUn, tCallS, WE, tTup, tLst, tSl, tPart, tNoPart, tPar, tChain, tBM, tBM0, tM0, tM1, gTup, gCons, gNil, tInC, gC, gN, tCallK, tCst, tRevL, ok_str, ok_int, ok_bool, ok_tuple, ok_list, ok_dict, sub_str, sub_tup, sub_lst, sub_bool, sub_int, sub_dict, Bool.not_true, Bool.not_false, kisS_none, kisS_bool, kisS_int, kisS_str, kisS_list, kisS_tuple, kisS_dict, kisT_none, kisT_bool, kisT_int, kisT_str, kisT_list, kisT_tuple, kisT_dict, kisL_none, kisL_bool, kisL_int, kisL_str, kisL_list, kisL_tuple, kisL_dict, kisB_none, kisB_bool, kisB_int, kisB_str, kisB_list, kisB_tuple, kisB_dict, kisI_none, kisI_bool, kisI_int, kisI_str, kisI_list, kisI_tuple, kisI_dict, kisIB_none, kisIB_bool, kisIB_int, kisIB_str, kisIB_list, kisIB_tuple, kisIB_dict, kisD_none, kisD_bool, kisD_int, kisD_str, kisD_list, kisD_tuple, kisD_dict, rEqU, rNeU, rAdd_1, rAdd_2, rAdd_3, rAdd_4, rSub_1, rMul_1, rMul_2, rMul_3, rDiv_1, rMod_1, rPow_1, rNeg_1, rLt_1, rLe_1, rLe_2, rGt_1, rGe_1, rIs_1, rIs_2, rIsNot_1, rIsNot_2, rMem_1, rItem_1, rItem_2, rStore_1, rLen_1, rLen_2, rInt_1, rInt_2, rMax_1, rMin_1, rList_1, rTuple_1, rAbs_1, rIsi_1, rSlice_1, rSlice_2, mAppend_1, mExtend_1, mPop_1, mPop_2, mInsert_1, mUpper_1, rInT_1, eqR_rr, eqR_rs, eqR_ri, eqR_rb, eqR_rn, eqR_sr, eqR_ir, eqR_br, eqR_nr, isCol_l, isCol_t, isCol_d, isSeq_l, isSeq_t, iAny, wipe, tYes, List.isEmpty_nil, List.isEmpty_cons, truN_non, truN_bl, truN_int, tyN_non, tyN_bl, tyN_int, tyN_str, keyOf, scal_nn, scal_nb, scal_ni, scal_ns, scal_nr, scal_bn, scal_bb, scal_bs, scal_br, scal_in, scal_ii, scal_is, scal_ir, scal_sn, scal_sb, scal_si, scal_ss, scal_sr, scal_rn, scal_rb, scal_ri, scal_rs, scal_rr, decide_true, decide_false, List.map_cons, List.map_nil, List.set_cons_zero, List.set_cons_succ, List.getElem?_cons_zero, List.getElem?_cons_succ, List.getElem?_nil, exists_eq_left, exists_eq_left', V.bl.injEq, V.int.injEq, V.str.injEq, V.ref.injEq, if_true, if_false, ite_true, ite_false, Bool.false_eq_true, eq_self, true_and, and_true, decide_eq_true_eq, I2.at_]
      rw [ixN_of hj0 hj1]
      have dv2 := Dr.ext (hid_mono (I1.p.left (Tp.of_fr I1.p.b hT10 f10))) (I0.new p9 dv)
      exact go _ _ _ (I2.put (DrA.set dv2 I2.A _)) (mem_set f0 (any_fine d hd)) (by rw [List.length_set]; exact z0) (Or.inr (by omega))
    clear I0 f0 z0 c0
    intro xs ds H5 I0 f0 z0 c0
    refine hN _ _ ?_; clear hN N
    -- one more
    refine sq fun N hN => ?_
    suffices go : ∀ xs ds H', LstI t H2 l H' xs ds → (∀ d ∈ ds, Fine 3000 3 d) → ds.length ≤ 6 → (goodD ds ∨ r ≤ 1) → N [some (.ref a), some (.int (0 + i)), some (.ref t), some (.int (0 + i')), some (.ref l), some (.int r), x6, x7, x8, x9] H' by
      simp only [tSeq, tIfS, tTest, tOp, tV, tC, tAsg, gName, gSub, tRet, tRetN, tCB, tCons, tNil, tDrop, tNext, tAnd, tOr, tNot, tAndV, tOrV, tNotV, tIf, tTru, tUn, tCallS, WE, tTup, tLst, tSl, tPart, tNoPart, tPar, tChain, tBM, tBM0, tM0, tM1, gTup, gCons, gNil, tInC, gC, gN, tCallK, tCst, tRevL, ok_str, ok_int, ok_bool, ok_tuple, ok_list, ok_dict, sub_str, sub_tup, sub_lst, sub_bool, sub_int, sub_dict, Bool.not_true, Bool.not_false, kisS_none, kisS_bool, kisS_int, kisS_str, kisS_list, kisS_tuple, kisS_dict, kisT_none, kisT_bool, kisT_int, kisT_str, kisT_list, kisT_tuple, kisT_dict, kisL_none, kisL_bool, kisL_int, kisL_str, kisL_list, kisL_tuple, kisL_dict, kisB_none, kisB_bool, kisB_int, kisB_str, kisB_list, kisB_tuple, kisB_dict, kisI_none, kisI_bool, kisI_int, kisI_str, kisI_list, kisI_tuple, kisI_dict, kisIB_none, kisIB_bool, kisIB_int, kisIB_str, kisIB_list, kisIB_tuple, kisIB_dict, kisD_none, kisD_bool, kisD_int, kisD_str, kisD_list, kisD_tuple, kisD_dict, rEqU, rNeU, rAdd_1, rAdd_2, rAdd_3, rAdd_4, rSub_1, rMul_1, rMul_2, rMul_3, rDiv_1, rMod_1, rPow_1, rNeg_1, rLt_1, rLe_1, rLe_2, rGt_1, rGe_1, rIs_1, rIs_2, rIsNot_1, rIsNot_2, rMem_1, rItem_1, rItem_2, rStore_1, rLen_1, rLen_2, rInt_1, rInt_2, rMax_1, rMin_1, rList_1, rTuple_1, rAbs_1, rIsi_1, rSlice_1, rSlice_2, mAppend_1, mExtend_1, mPop_1, mPop_2, mInsert_1, mUpper_1, rInT_1, eqR_rr, eqR_rs, eqR_ri, eqR_rb, eqR_rn, eqR_sr, eqR_ir, eqR_br, eqR_nr, isCol_l, isCol_t, isCol_d, isSeq_l, isSeq_t, iAny, wipe, tYes, List.isEmpty_nil, List.isEmpty_cons, truN_non, truN_bl, truN_int, tyN_non, tyN_bl, tyN_int, tyN_str, keyOf, scal_nn, scal_nb, scal_ni, scal_ns, scal_nr, scal_bn, scal_bb, scal_bs, scal_br, scal_in, scal_ii, scal_is, scal_ir, scal_sn, scal_sb, scal_si, scal_ss, scal_sr, scal_rn, scal_rb, scal_ri, scal_rs, scal_rr, decide_true, decide_false, List.map_cons, List.map_nil, List.set_cons_zero, List.set_cons_succ, List.getElem?_cons_zero, List.getElem?_cons_succ, List.getElem?_nil, exists_eq_left, exists_eq_left', V.bl.injEq, V.int.injEq, V.str.injEq, V.ref.injEq, if_true, if_false, ite_true, ite_false, Bool.false_eq_true, eq_self, true_and, and_true, decide_eq_true_eq]
      refine ite2 (fun hr => ?_) (fun _ => go _ _ _ I0 f0 z0 (c0.imp_right (by omega)))
      have g0 := c0.resolve_right (by omega)
      have g1 := g0.1
      have hl := I0.len
      refine ⟨tyV_l (by rw [I0.rd]; rfl), ?_⟩
      simp only [tSeq, tIfS, tTest, tOp, tV, tC, tAsg, gName, gSub, tRet, tRetN, tCB, tCons, tNil, tDrop, tNext, tAnd, tOr, tNot, tAndV, tOrV, tNotV, tIf, tTru, tUn, tCallS, WE, tTup, tLst, tSl, tPart, tNoPart, tPar, tChain, tBM, tBM0, tM0, tM1, gTup, gCons, gNil, tInC, gC, gN, tCallK, tCst, tRevL, ok_str, ok_int, ok_bool, ok_tuple, ok_list, ok_dict, sub_str, sub_tup, sub_lst, sub_bool, sub_int, sub_dict, Bool.not_true, Bool.not_false, kisS_none, kisS_bool, kisS_int, kisS_str, kisS_list, kisS_tuple, kisS_dict, kisT_none, kisT_bool, kisT_int, kisT_str, kisT_list, kisT_tuple, kisT_dict, kisL_none, kisL_bool, kisL_int, kisL_str, kisL_list, kisL_tuple, kisL_dict, kisB_none, kisB_bool, kisB_int, kisB_str, kisB_list, kisB_tuple, kisB_dict, kisI_none, kisI_bool, kisI_int, kisI_str, kisI_list, kisI_tuple, kisI_dict, kisIB_none, kisIB_bool, kisIB_int, kisIB_str, kisIB_list, kisIB_tuple, kisIB_dict, kisD_none, kisD_bool, kisD_int, kisD_str, kisD_list, kisD_tuple, kisD_dict, rEqU, rNeU, rAdd_1, rAdd_2, rAdd_3, rAdd_4, rSub_1, rMul_1, rMul_2, rMul_3, rDiv_1, rMod_1, rPow_1, rNeg_1, rLt_1, rLe_1, rLe_2, rGt_1, rGe_1, rIs_1, rIs_2, rIsNot_1, rIsNot_2, rMem_1, rItem_1, rItem_2, rStore_1, rLen_1, rLen_2, rInt_1, rInt_2, rMax_1, rMin_1, rList_1, rTuple_1, rAbs_1, rIsi_1, rSlice_1, rSlice_2, mAppend_1, mExtend_1, mPop_1, mPop_2, mInsert_1, mUpper_1, rInT_1, eqR_rr, eqR_rs, eqR_ri, eqR_rb, eqR_rn, eqR_sr, eqR_ir, eqR_br, eqR_nr, isCol_l, isCol_t, isCol_d, isSeq_l, isSeq_t, iAny, wipe, tYes, List.isEmpty_nil, List.isEmpty_cons, truN_non, truN_bl, truN_int, tyN_non, tyN_bl, tyN_int, tyN_str, keyOf, scal_nn, scal_nb, scal_ni, scal_ns, scal_nr, scal_bn, scal_bb, scal_bs, scal_br, scal_in, scal_ii, scal_is, scal_ir, scal_sn, scal_sb, scal_si, scal_ss, scal_sr, scal_rn, scal_rb, scal_ri, scal_rs, scal_rr, decide_true, decide_false, List.map_cons, List.map_nil, List.set_cons_zero, List.set_cons_succ, List.getElem?_cons_zero, List.getElem?_cons_succ, List.getElem?_nil, exists_eq_left, exists_eq_left', V.bl.injEq, V.int.injEq, V.str.injEq, V.ref.injEq, if_true, if_false, ite_true, ite_false, Bool.false_eq_true, eq_self, true_and, and_true, decide_eq_true_eq, I0.rd]
      refine ⟨t, _, rfl, I0.p.b, ⟨by omega, by omega⟩, fun j H10 hj0 hj1 f10 hT10 => ?_⟩
      have I1 := I0.step (Tp.of_fr I0.p.b hT10 f10)
      refine ⟨t, rfl, I1.p.b, fun v d H9 hd dv p9 => ?_⟩
      have I2 := I1.step p9
      simp only [tSeq, tIfS, tTest, tOp, tV, tC, tAsg, gName, gSub, tRet, tRetN, tCB, tCons, tNil, tDrop, tNext, tAnd, tOr, tNot, tAndV, tOrV, tNotV, tIf, tTru, tUn, tCallS, WE, tTup, tLst, tSl, tPart, tNoPart, tPar, tChain, tBM, tBM0, tM0, tM1, gTup, gCons, gNil, tInC, gC, gN, tCallK, tCst, tRevL, ok_str, ok_int, ok_bool, ok_tuple, ok_list, ok_dict, sub_str, sub_tup, sub_lst, sub_bool, sub_int, sub_dict, Bool.not_true, Bool.not_false, kisS_none, kisS_bool, kisS_int, kisS_str, kisS_list, kisS_tuple, kisS_dict, kisT_none, kisT_bool, kisT_int, kisT_str, kisT_list, kisT_tuple, kisT_dict, kisL_none, kisL_bool, kisL_int, kisL_str, kisL_list, kisL_tuple, kisL_dict, kisB_none, kisB_bool, kisB_int, kisB_str, kisB_list, kisB_tuple, kisB_dict, kisI_none, kisI_bool, kisI_int, kisI_str, kisI_list, kisI_tuple, kisI_dict, kisIB_none, kisIB_bool, kisIB_int, kisIB_str, kisIB_list, kisIB_tuple, kisIB_dict, kisD_none, kisD_bool, kisD_int, kisD_str, kisD_list, kisD_tuple, kisD_dict, rEqU, rNeU, rAdd_1, rAdd_2, rAdd_3, rAdd_4, rSub_1, rMul_1, rMul_2, rMul_3, rDiv_1, rMod_1, rPow_1, rNeg_1, rLt_1, rLe_1, rLe_2, rGt_1, rGe_1, rIs_1, rIs_2, rIsNot_1, rIsNot_2, rMem_1, rItem_1, rItem_2, rStore_1, rLen_1, rLen_2, rInt_1, rInt_2, rMax_1, rMin_1, rList_1, rTuple_1, rAbs_1, rIsi_1, rSlice_1, rSlice_2, mAppend_1, mExtend_1, mPop_1, mPop_2, mInsert_1, mUpper_1, rInT_1, eqR_rr, eqR_rs, eqR_ri, eqR_rb, eqR_rn, eqR_sr, eqR_ir, eqR_br, eqR_nr, isCol_l, isCol_t, isCol_d, isSeq_l, isSeq_t, iAny, wipe, tYes, List.isEmpty_nil, List.isEmpty_cons, truN_non, truN_bl, truN_int, tyN_non, tyN_bl, tyN_int, tyN_str, keyOf, scal_nn, scal_nb, scal_ni, scal_ns, scal_nr, scal_bn, scal_bb, scal_bs, scal_br, scal_in, scal_ii, scal_is, scal_ir, scal_sn, scal_sb, scal_si, scal_ss, scal_sr, scal_rn, scal_rb, scal_ri, scal_rs, scal_rr, decide_true, decide_false, List.map_cons, List.map_nil, List.set_cons_zero, List.set_cons_succ, List.getElem?_cons_zero, List.getElem?_cons_succ, List.getElem?_nil, exists_eq_left, exists_eq_left', V.bl.injEq, V.int.injEq, V.str.injEq, V.ref.injEq, if_true, if_false, ite_true, ite_false, Bool.false_eq_true, eq_self, true_and, and_true, decide_eq_true_eq, I2.at_]
      refine ⟨⟨by omega, hj0, by omega⟩, ?_⟩
      exact go _ _ _ (I2.put (DrA.ins (I1.new p9 dv) I2.A j.toNat)) (fun e he => by
        rcases List.mem_append.mp he with he | he
        · rcases List.mem_append.mp he with he | he
          · exact f0 e (List.mem_of_mem_take he)
          · rw [List.mem_singleton.mp he]
            exact any_fine d hd
        · exact f0 e (List.mem_of_mem_drop he)) (by simp only [List.length_append, List.length_take, List.length_drop, List.length_cons, List.length_nil]; omega) (Or.inr (by omega))
    clear I0 f0 z0 c0
    intro xs ds H5 I0 f0 z0 c0
    refine hN _ _ ?_; clear hN N
    -- one less
    refine sq fun N hN => ?_
    suffices go : ∀ xs ds H', LstI t H2 l H' xs ds → (∀ d ∈ ds, Fine 3000 3 d) → ds.length ≤ 6 → (goodD ds ∨ r ≤ 2) → N [some (.ref a), some (.int (0 + i)), some (.ref t), some (.int (0 + i')), some (.ref l), some (.int r), x6, x7, x8, x9] H' by
      simp only [tSeq, tIfS, tTest, tOp, tV, tC, tAsg, gName, gSub, tRet, tRetN, tCB, tCons, tNil, tDrop, tNext, tAnd, tOr, tNot, tAndV, tOrV, tNotV, tIf, tTru, tUn, tCallS, WE, tTup, tLst, tSl, tPart, tNoPart, tPar, tChain, tBM, tBM0, tM0, tM1, gTup, gCons, gNil, tInC, gC, gN, tCallK, tCst, tRevL, ok_str, ok_int, ok_bool, ok_tuple, ok_list, ok_dict, sub_str, sub_tup, sub_lst, sub_bool, sub_int, sub_dict, Bool.not_true, Bool.not_false, kisS_none, kisS_bool, kisS_int, kisS_str, kisS_list, kisS_tuple, kisS_dict, kisT_none, kisT_bool, kisT_int, kisT_str, kisT_list, kisT_tuple, kisT_dict, kisL_none, kisL_bool, kisL_int, kisL_str, kisL_list, kisL_tuple, kisL_dict, kisB_none, kisB_bool, kisB_int, kisB_str, kisB_list, kisB_tuple, kisB_dict, kisI_none, kisI_bool, kisI_int, kisI_str, kisI_list, kisI_tuple, kisI_dict, kisIB_none, kisIB_bool, kisIB_int, kisIB_str, kisIB_list, kisIB_tuple, kisIB_dict, kisD_none, kisD_bool, kisD_int, kisD_str, kisD_list, kisD_tuple, kisD_dict, rEqU, rNeU, rAdd_1, rAdd_2, rAdd_3, rAdd_4, rSub_1, rMul_1, rMul_2, rMul_3, rDiv_1, rMod_1, rPow_1, rNeg_1, rLt_1, rLe_1, rLe_2, rGt_1, rGe_1, rIs_1, rIs_2, rIsNot_1, rIsNot_2, rMem_1, rItem_1, rItem_2, rStore_1, rLen_1, rLen_2, rInt_1, rInt_2, rMax_1, rMin_1, rList_1, rTuple_1, rAbs_1, rIsi_1, rSlice_1, rSlice_2, mAppend_1, mExtend_1, mPop_1, mPop_2, mInsert_1, mUpper_1, rInT_1, eqR_rr, eqR_rs, eqR_ri, eqR_rb, eqR_rn, eqR_sr, eqR_ir, eqR_br, eqR_nr, isCol_l, isCol_t, isCol_d, isSeq_l, isSeq_t, iAny, wipe, tYes, List.isEmpty_nil, List.isEmpty_cons, truN_non, truN_bl, truN_int, tyN_non, tyN_bl, tyN_int, tyN_str, keyOf, scal_nn, scal_nb, scal_ni, scal_ns, scal_nr, scal_bn, scal_bb, scal_bs, scal_br, scal_in, scal_ii, scal_is, scal_ir, scal_sn, scal_sb, scal_si, scal_ss, scal_sr, scal_rn, scal_rb, scal_ri, scal_rs, scal_rr, decide_true, decide_false, List.map_cons, List.map_nil, List.set_cons_zero, List.set_cons_succ, List.getElem?_cons_zero, List.getElem?_cons_succ, List.getElem?_nil, exists_eq_left, exists_eq_left', V.bl.injEq, V.int.injEq, V.str.injEq, V.ref.injEq, if_true, if_false, ite_true, ite_false, Bool.false_eq_true, eq_self, true_and, and_true, decide_eq_true_eq]
      refine ite2 (fun hr => ?_) (fun _ => go _ _ _ I0 f0 z0 (c0.imp_right (by omega)))
      have g0 := c0.resolve_right (by omega)
      have g1 := g0.1
      have hl := I0.len
      refine ⟨tyV_l (by rw [I0.rd]; rfl), ?_⟩
      simp only [tSeq, tIfS, tTest, tOp, tV, tC, tAsg, gName, gSub, tRet, tRetN, tCB, tCons, tNil, tDrop, tNext, tAnd, tOr, tNot, tAndV, tOrV, tNotV, tIf, tTru, tUn, tCallS, WE, tTup, tLst, tSl, tPart, tNoPart, tPar, tChain, tBM, tBM0, tM0, tM1, gTup, gCons, gNil, tInC, gC, gN, tCallK, tCst, tRevL, ok_str, ok_int, ok_bool, ok_tuple, ok_list, ok_dict, sub_str, sub_tup, sub_lst, sub_bool, sub_int, sub_dict, Bool.not_true, Bool.not_false, kisS_none, kisS_bool, kisS_int, kisS_str, kisS_list, kisS_tuple, kisS_dict, kisT_none, kisT_bool, kisT_int, kisT_str, kisT_list, kisT_tuple, kisT_dict, kisL_none, kisL_bool, kisL_int, kisL_str, kisL_list, kisL_tuple, kisL_dict, kisB_none, kisB_bool, kisB_int, kisB_str, kisB_list, kisB_tuple, kisB_dict, kisI_none, kisI_bool, kisI_int, kisI_str, kisI_list, kisI_tuple, kisI_dict, kisIB_none, kisIB_bool, kisIB_int, kisIB_str, kisIB_list, kisIB_tuple, kisIB_dict, kisD_none, kisD_bool, kisD_int, kisD_str, kisD_list, kisD_tuple, kisD_dict, rEqU, rNeU, rAdd_1, rAdd_2, rAdd_3, rAdd_4, rSub_1, rMul_1, rMul_2, rMul_3, rDiv_1, rMod_1, rPow_1, rNeg_1, rLt_1, rLe_1, rLe_2, rGt_1, rGe_1, rIs_1, rIs_2, rIsNot_1, rIsNot_2, rMem_1, rItem_1, rItem_2, rStore_1, rLen_1, rLen_2, rInt_1, rInt_2, rMax_1, rMin_1, rList_1, rTuple_1, rAbs_1, rIsi_1, rSlice_1, rSlice_2, mAppend_1, mExtend_1, mPop_1, mPop_2, mInsert_1, mUpper_1, rInT_1, eqR_rr, eqR_rs, eqR_ri, eqR_rb, eqR_rn, eqR_sr, eqR_ir, eqR_br, eqR_nr, isCol_l, isCol_t, isCol_d, isSeq_l, isSeq_t, iAny, wipe, tYes, List.isEmpty_nil, List.isEmpty_cons, truN_non, truN_bl, truN_int, tyN_non, tyN_bl, tyN_int, tyN_str, keyOf, scal_nn, scal_nb, scal_ni, scal_ns, scal_nr, scal_bn, scal_bb, scal_bs, scal_br, scal_in, scal_ii, scal_is, scal_ir, scal_sn, scal_sb, scal_si, scal_ss, scal_sr, scal_rn, scal_rb, scal_ri, scal_rs, scal_rr, decide_true, decide_false, List.map_cons, List.map_nil, List.set_cons_zero, List.set_cons_succ, List.getElem?_cons_zero, List.getElem?_cons_succ, List.getElem?_nil, exists_eq_left, exists_eq_left', V.bl.injEq, V.int.injEq, V.str.injEq, V.ref.injEq, if_true, if_false, ite_true, ite_false, Bool.false_eq_true, eq_self, true_and, and_true, decide_eq_true_eq, I0.rd]
      refine ⟨t, _, rfl, I0.p.b, ⟨by omega, by omega⟩, fun j H10 hj0 hj1 f10 hT10 => ?_⟩
      have I1 := I0.step (Tp.of_fr I0.p.b hT10 f10)
      simp only [tSeq, tIfS, tTest, tOp, tV, tC, tAsg, gName, gSub, tRet, tRetN, tCB, tCons, tNil, tDrop, tNext, tAnd, tOr, tNot, tAndV, tOrV, tNotV, tIf, tTru, tUn, tCallS, WE, tTup, tLst, tSl, tPart, tNoPart, tPar, tChain, tBM, tBM0, tM0, tM1, gTup, gCons, gNil, tInC, gC, gN, tCallK, tCst, tRevL, ok_str, ok_int, ok_bool, ok_tuple, ok_list, ok_dict, sub_str, sub_tup, sub_lst, sub_bool, sub_int, sub_dict, Bool.not_true, Bool.not_false, kisS_none, kisS_bool, kisS_int, kisS_str, kisS_list, kisS_tuple, kisS_dict, kisT_none, kisT_bool, kisT_int, kisT_str, kisT_list, kisT_tuple, kisT_dict, kisL_none, kisL_bool, kisL_int, kisL_str, kisL_list, kisL_tuple, kisL_dict, kisB_none, kisB_bool, kisB_int, kisB_str, kisB_list, kisB_tuple, kisB_dict, kisI_none, kisI_bool, kisI_int, kisI_str, kisI_list, kisI_tuple, kisI_dict, kisIB_none, kisIB_bool, kisIB_int, kisIB_str, kisIB_list, kisIB_tuple, kisIB_dict, kisD_none, kisD_bool, kisD_int, kisD_str, kisD_list, kisD_tuple, kisD_dict, rEqU, rNeU, rAdd_1, rAdd_2, rAdd_3, rAdd_4, rSub_1, rMul_1, rMul_2, rMul_3, rDiv_1, rMod_1, rPow_1, rNeg_1, rLt_1, rLe_1, rLe_2, rGt_1, rGe_1, rIs_1, rIs_2, rIsNot_1, rIsNot_2, rMem_1, rItem_1, rItem_2, rStore_1, rLen_1, rLen_2, rInt_1, rInt_2, rMax_1, rMin_1, rList_1, rTuple_1, rAbs_1, rIsi_1, rSlice_1, rSlice_2, mAppend_1, mExtend_1, mPop_1, mPop_2, mInsert_1, mUpper_1, rInT_1, eqR_rr, eqR_rs, eqR_ri, eqR_rb, eqR_rn, eqR_sr, eqR_ir, eqR_br, eqR_nr, isCol_l, isCol_t, isCol_d, isSeq_l, isSeq_t, iAny, wipe, tYes, List.isEmpty_nil, List.isEmpty_cons, truN_non, truN_bl, truN_int, tyN_non, tyN_bl, tyN_int, tyN_str, keyOf, scal_nn, scal_nb, scal_ni, scal_ns, scal_nr, scal_bn, scal_bb, scal_bs, scal_br, scal_in, scal_ii, scal_is, scal_ir, scal_sn, scal_sb, scal_si, scal_ss, scal_sr, scal_rn, scal_rb, scal_ri, scal_rs, scal_rr, decide_true, decide_false, List.map_cons, List.map_nil, List.set_cons_zero, List.set_cons_succ, List.getElem?_cons_zero, List.getElem?_cons_succ, List.getElem?_nil, exists_eq_left, exists_eq_left', V.bl.injEq, V.int.injEq, V.str.injEq, V.ref.injEq, if_true, if_false, ite_true, ite_false, Bool.false_eq_true, eq_self, true_and, and_true, decide_eq_true_eq, I1.at_]
      rw [sqI_of hj0 hj1]
      refine ⟨⟨by omega, by omega⟩, ?_⟩
      have hk : j.toNat < xs.length := by omega
      generalize j.toNat = q at hk
      have fin := go _ _ _ (I1.put (I1.A.erase q)) (fun e he => f0 e (List.mem_of_mem_eraseIdx he)) (Nat.le_trans (List.length_eraseIdx_le _ _) z0) (Or.inr (by omega))
      obtain ⟨y, hy⟩ : ∃ y, xs[q]? = some y := ⟨_, List.getElem?_eq_getElem hk⟩
      simp only [hy]
      exact fin
    clear I0 f0 z0 c0
    intro xs ds H5 I0 f0 z0 c0
    refine hN _ _ ?_; clear hN N
    -- a word bent
    refine sq fun N hN => ?_
    suffices go : ∀ x6 x7 xs ds H', LstI t H2 l H' xs ds → (∀ d ∈ ds, Fine 3000 3 d) → ds.length ≤ 6 → N [some (.ref a), some (.int (0 + i)), some (.ref t), some (.int (0 + i')), some (.ref l), some (.int r), x6, x7, x8, x9] H' by
      simp only [tSeq, tIfS, tTest, tOp, tV, tC, tAsg, gName, gSub, tRet, tRetN, tCB, tCons, tNil, tDrop, tNext, tAnd, tOr, tNot, tAndV, tOrV, tNotV, tIf, tTru, tUn, tCallS, WE, tTup, tLst, tSl, tPart, tNoPart, tPar, tChain, tBM, tBM0, tM0, tM1, gTup, gCons, gNil, tInC, gC, gN, tCallK, tCst, tRevL, ok_str, ok_int, ok_bool, ok_tuple, ok_list, ok_dict, sub_str, sub_tup, sub_lst, sub_bool, sub_int, sub_dict, Bool.not_true, Bool.not_false, kisS_none, kisS_bool, kisS_int, kisS_str, kisS_list, kisS_tuple, kisS_dict, kisT_none, kisT_bool, kisT_int, kisT_str, kisT_list, kisT_tuple, kisT_dict, kisL_none, kisL_bool, kisL_int, kisL_str, kisL_list, kisL_tuple, kisL_dict, kisB_none, kisB_bool, kisB_int, kisB_str, kisB_list, kisB_tuple, kisB_dict, kisI_none, kisI_bool, kisI_int, kisI_str, kisI_list, kisI_tuple, kisI_dict, kisIB_none, kisIB_bool, kisIB_int, kisIB_str, kisIB_list, kisIB_tuple, kisIB_dict, kisD_none, kisD_bool, kisD_int, kisD_str, kisD_list, kisD_tuple, kisD_dict, rEqU, rNeU, rAdd_1, rAdd_2, rAdd_3, rAdd_4, rSub_1, rMul_1, rMul_2, rMul_3, rDiv_1, rMod_1, rPow_1, rNeg_1, rLt_1, rLe_1, rLe_2, rGt_1, rGe_1, rIs_1, rIs_2, rIsNot_1, rIsNot_2, rMem_1, rItem_1, rItem_2, rStore_1, rLen_1, rLen_2, rInt_1, rInt_2, rMax_1, rMin_1, rList_1, rTuple_1, rAbs_1, rIsi_1, rSlice_1, rSlice_2, mAppend_1, mExtend_1, mPop_1, mPop_2, mInsert_1, mUpper_1, rInT_1, eqR_rr, eqR_rs, eqR_ri, eqR_rb, eqR_rn, eqR_sr, eqR_ir, eqR_br, eqR_nr, isCol_l, isCol_t, isCol_d, isSeq_l, isSeq_t, iAny, wipe, tYes, List.isEmpty_nil, List.isEmpty_cons, truN_non, truN_bl, truN_int, tyN_non, tyN_bl, tyN_int, tyN_str, keyOf, scal_nn, scal_nb, scal_ni, scal_ns, scal_nr, scal_bn, scal_bb, scal_bs, scal_br, scal_in, scal_ii, scal_is, scal_ir, scal_sn, scal_sb, scal_si, scal_ss, scal_sr, scal_rn, scal_rb, scal_ri, scal_rs, scal_rr, decide_true, decide_false, List.map_cons, List.map_nil, List.set_cons_zero, List.set_cons_succ, List.getElem?_cons_zero, List.getElem?_cons_succ, List.getElem?_nil, exists_eq_left, exists_eq_left', V.bl.injEq, V.int.injEq, V.str.injEq, V.ref.injEq, if_true, if_false, ite_true, ite_false, Bool.false_eq_true, eq_self, true_and, and_true, decide_eq_true_eq]
      refine ite2 (fun hr => ?_) (fun _ => go _ _ _ _ _ I0 f0 z0)
      have g0 := c0.resolve_right (by omega)
      have g1 := g0.1
      have hl := I0.len
      have hi : ∀ (σ : St) (R : It → Hp → Prop), σ[4]? = some (some (.ref l)) → R (Itr 0 xs.length) H5 → iRng1 (tCons (tCB rLen (tCons (tV 4) tNil)) tNil) σ H5 R := fun σ R e q => by
        simp only [tSeq, tIfS, tTest, tOp, tV, tC, tAsg, gName, gSub, tRet, tRetN, tCB, tCons, tNil, tDrop, tNext, tAnd, tOr, tNot, tAndV, tOrV, tNotV, tIf, tTru, tUn, tCallS, WE, tTup, tLst, tSl, tPart, tNoPart, tPar, tChain, tBM, tBM0, tM0, tM1, gTup, gCons, gNil, tInC, gC, gN, tCallK, tCst, tRevL, ok_str, ok_int, ok_bool, ok_tuple, ok_list, ok_dict, sub_str, sub_tup, sub_lst, sub_bool, sub_int, sub_dict, Bool.not_true, Bool.not_false, kisS_none, kisS_bool, kisS_int, kisS_str, kisS_list, kisS_tuple, kisS_dict, kisT_none, kisT_bool, kisT_int, kisT_str, kisT_list, kisT_tuple, kisT_dict, kisL_none, kisL_bool, kisL_int, kisL_str, kisL_list, kisL_tuple, kisL_dict, kisB_none, kisB_bool, kisB_int, kisB_str, kisB_list, kisB_tuple, kisB_dict, kisI_none, kisI_bool, kisI_int, kisI_str, kisI_list, kisI_tuple, kisI_dict, kisIB_none, kisIB_bool, kisIB_int, kisIB_str, kisIB_list, kisIB_tuple, kisIB_dict, kisD_none, kisD_bool, kisD_int, kisD_str, kisD_list, kisD_tuple, kisD_dict, rEqU, rNeU, rAdd_1, rAdd_2, rAdd_3, rAdd_4, rSub_1, rMul_1, rMul_2, rMul_3, rDiv_1, rMod_1, rPow_1, rNeg_1, rLt_1, rLe_1, rLe_2, rGt_1, rGe_1, rIs_1, rIs_2, rIsNot_1, rIsNot_2, rMem_1, rItem_1, rItem_2, rStore_1, rLen_1, rLen_2, rInt_1, rInt_2, rMax_1, rMin_1, rList_1, rTuple_1, rAbs_1, rIsi_1, rSlice_1, rSlice_2, mAppend_1, mExtend_1, mPop_1, mPop_2, mInsert_1, mUpper_1, rInT_1, eqR_rr, eqR_rs, eqR_ri, eqR_rb, eqR_rn, eqR_sr, eqR_ir, eqR_br, eqR_nr, isCol_l, isCol_t, isCol_d, isSeq_l, isSeq_t, iAny, wipe, tYes, List.isEmpty_nil, List.isEmpty_cons, truN_non, truN_bl, truN_int, tyN_non, tyN_bl, tyN_int, tyN_str, keyOf, scal_nn, scal_nb, scal_ni, scal_ns, scal_nr, scal_bn, scal_bb, scal_bs, scal_br, scal_in, scal_ii, scal_is, scal_ir, scal_sn, scal_sb, scal_si, scal_ss, scal_sr, scal_rn, scal_rb, scal_ri, scal_rs, scal_rr, decide_true, decide_false, List.map_cons, List.map_nil, List.set_cons_zero, List.set_cons_succ, List.getElem?_cons_zero, List.getElem?_cons_succ, List.getElem?_nil, exists_eq_left, exists_eq_left', V.bl.injEq, V.int.injEq, V.str.injEq, V.ref.injEq, if_true, if_false, ite_true, ite_false, Bool.false_eq_true, eq_self, true_and, and_true, decide_eq_true_eq, iRng1, e, I0.rd]
        exact ⟨xs.length, rfl, by omega, by omega, q⟩
      refine hi _ _ rfl ?_
      refine fun D hD => ?_
      have nl : l ≠ D := fun z => by rw [← z, I0.at_] at hD; cases hD
      have at_ : ∀ o, rdo (upd H5 D o) l = some (.lst xs) := fun o => rdo_ext I0.rd (Ext.new hD)
      refine lc_it walk_range (fun n H' => ∃ ks : List Nat, H' = upd H5 D (.lst (ks.map fun (q : Nat) => V.int (0 + (q : Int)))) ∧ ks.length ≤ n ∧ (∀ q ∈ ks, ∃ s, ds[q]? = some (.str s)) ∧ (0 < n → 0 < ks.length)) ⟨[], rfl, Nat.le_refl _, fun q hq => (by cases hq), fun z => absurd z (by decide)⟩ (fun _ _ _ _ => trivial) (fun n x H6 H7 hn p y => ?_) (fun H6 p => ?_)
      · obtain ⟨rfl, rfl⟩ := y
        obtain ⟨ks, rfl, k1, k2, k3⟩ := p
        have hd : n < ds.length := by omega
        obtain ⟨v, hv, dv⟩ := I0.A.get (List.getElem?_eq_getElem hd)
        have ea : atI xs (0 + (n : Int)) = some v := by
          rw [Int.zero_add]
          exact atI_nat hv
        have dv2 : Dr (upd H5 D (.lst (ks.map fun (q : Nat) => V.int (0 + (q : Int))))) v ds[n] := Dr.ext (Ext.hid_in.trans (newp_in.trans (Ext.new hD))) dv
        simp only [tSeq, tIfS, tTest, tOp, tV, tC, tAsg, gName, gSub, tRet, tRetN, tCB, tCons, tNil, tDrop, tNext, tAnd, tOr, tNot, tAndV, tOrV, tNotV, tIf, tTru, tUn, tCallS, WE, tTup, tLst, tSl, tPart, tNoPart, tPar, tChain, tBM, tBM0, tM0, tM1, gTup, gCons, gNil, tInC, gC, gN, tCallK, tCst, tRevL, ok_str, ok_int, ok_bool, ok_tuple, ok_list, ok_dict, sub_str, sub_tup, sub_lst, sub_bool, sub_int, sub_dict, Bool.not_true, Bool.not_false, kisS_none, kisS_bool, kisS_int, kisS_str, kisS_list, kisS_tuple, kisS_dict, kisT_none, kisT_bool, kisT_int, kisT_str, kisT_list, kisT_tuple, kisT_dict, kisL_none, kisL_bool, kisL_int, kisL_str, kisL_list, kisL_tuple, kisL_dict, kisB_none, kisB_bool, kisB_int, kisB_str, kisB_list, kisB_tuple, kisB_dict, kisI_none, kisI_bool, kisI_int, kisI_str, kisI_list, kisI_tuple, kisI_dict, kisIB_none, kisIB_bool, kisIB_int, kisIB_str, kisIB_list, kisIB_tuple, kisIB_dict, kisD_none, kisD_bool, kisD_int, kisD_str, kisD_list, kisD_tuple, kisD_dict, rEqU, rNeU, rAdd_1, rAdd_2, rAdd_3, rAdd_4, rSub_1, rMul_1, rMul_2, rMul_3, rDiv_1, rMod_1, rPow_1, rNeg_1, rLt_1, rLe_1, rLe_2, rGt_1, rGe_1, rIs_1, rIs_2, rIsNot_1, rIsNot_2, rMem_1, rItem_1, rItem_2, rStore_1, rLen_1, rLen_2, rInt_1, rInt_2, rMax_1, rMin_1, rList_1, rTuple_1, rAbs_1, rIsi_1, rSlice_1, rSlice_2, mAppend_1, mExtend_1, mPop_1, mPop_2, mInsert_1, mUpper_1, rInT_1, eqR_rr, eqR_rs, eqR_ri, eqR_rb, eqR_rn, eqR_sr, eqR_ir, eqR_br, eqR_nr, isCol_l, isCol_t, isCol_d, isSeq_l, isSeq_t, iAny, wipe, tYes, List.isEmpty_nil, List.isEmpty_cons, truN_non, truN_bl, truN_int, tyN_non, tyN_bl, tyN_int, tyN_str, keyOf, scal_nn, scal_nb, scal_ni, scal_ns, scal_nr, scal_bn, scal_bb, scal_bs, scal_br, scal_in, scal_ii, scal_is, scal_ir, scal_sn, scal_sb, scal_si, scal_ss, scal_sr, scal_rn, scal_rb, scal_ri, scal_rs, scal_rr, decide_true, decide_false, List.map_cons, List.map_nil, List.set_cons_zero, List.set_cons_succ, List.getElem?_cons_zero, List.getElem?_cons_succ, List.getElem?_nil, exists_eq_left, exists_eq_left', V.bl.injEq, V.int.injEq, V.str.injEq, V.ref.injEq, if_true, if_false, ite_true, ite_false, Bool.false_eq_true, eq_self, true_and, and_true, decide_eq_true_eq, at_, ea, tyN_dr dv2]
        refine ite2 (fun hs => ?_) (fun hs => ?_)
        · obtain ⟨s, hs⟩ := of_isS hs
          refine ⟨_, upd_same, by rw [List.length_map]; omega, ks ++ [n], by rw [upd_upd, List.map_append]; rfl, by rw [List.length_append]; exact Nat.add_le_add_right k1 1, mem_app k2 ⟨s, by rw [List.getElem?_eq_getElem hd, hs]⟩, fun _ => by rw [List.length_append]; exact Nat.succ_pos _⟩
        · refine ⟨ks, rfl, by omega, k2, fun _ => ?_⟩
          refine k3 ?_
          refine Nat.pos_of_ne_zero fun z => hs ?_
          subst z
          obtain ⟨w, r', e⟩ := g0.2.1
          subst e
          rfl
      · obtain ⟨ks, rfl, k1, k2, k3⟩ := p
        have k3 := k3 (by omega)
        have I1 := I0.step (Tp.of_ext I0.p.b (Ext.new (o := .lst (ks.map fun (q : Nat) => V.int (0 + (q : Int)))) hD))
        refine Or.inl ⟨t, D, _, rfl, I1.p.b, Or.inl (rdo_of upd_same (fun _ _ z => nomatch z)), by rw [List.length_map]; omega, fun v H7 hv f7 hT7 => ?_⟩
        have I2 := I1.step (Tp.of_fr I1.p.b hT7 f7)
        obtain ⟨q, hq, rfl⟩ := List.mem_map.mp hv
        obtain ⟨s, es⟩ := k2 q hq
        obtain ⟨y, hy, dy⟩ := I2.A.get es
        obtain rfl := dr_str dy
        have hq2 : q < xs.length := (List.getElem?_eq_some_iff.mp hy).1
        have ea : atI xs (0 + (q : Int)) = some (.str s) := by
          rw [Int.zero_add]
          exact atI_nat hy
        obtain ⟨as, ls⟩ := okItem_str (g0.2.2 _ (List.mem_of_getElem? es))
        simp only [tSeq, tIfS, tTest, tOp, tV, tC, tAsg, gName, gSub, tRet, tRetN, tCB, tCons, tNil, tDrop, tNext, tAnd, tOr, tNot, tAndV, tOrV, tNotV, tIf, tTru, tUn, tCallS, WE, tTup, tLst, tSl, tPart, tNoPart, tPar, tChain, tBM, tBM0, tM0, tM1, gTup, gCons, gNil, tInC, gC, gN, tCallK, tCst, tRevL, ok_str, ok_int, ok_bool, ok_tuple, ok_list, ok_dict, sub_str, sub_tup, sub_lst, sub_bool, sub_int, sub_dict, Bool.not_true, Bool.not_false, kisS_none, kisS_bool, kisS_int, kisS_str, kisS_list, kisS_tuple, kisS_dict, kisT_none, kisT_bool, kisT_int, kisT_str, kisT_list, kisT_tuple, kisT_dict, kisL_none, kisL_bool, kisL_int, kisL_str, kisL_list, kisL_tuple, kisL_dict, kisB_none, kisB_bool, kisB_int, kisB_str, kisB_list, kisB_tuple, kisB_dict, kisI_none, kisI_bool, kisI_int, kisI_str, kisI_list, kisI_tuple, kisI_dict, kisIB_none, kisIB_bool, kisIB_int, kisIB_str, kisIB_list, kisIB_tuple, kisIB_dict, kisD_none, kisD_bool, kisD_int, kisD_str, kisD_list, kisD_tuple, kisD_dict, rEqU, rNeU, rAdd_1, rAdd_2, rAdd_3, rAdd_4, rSub_1, rMul_1, rMul_2, rMul_3, rDiv_1, rMod_1, rPow_1, rNeg_1, rLt_1, rLe_1, rLe_2, rGt_1, rGe_1, rIs_1, rIs_2, rIsNot_1, rIsNot_2, rMem_1, rItem_1, rItem_2, rStore_1, rLen_1, rLen_2, rInt_1, rInt_2, rMax_1, rMin_1, rList_1, rTuple_1, rAbs_1, rIsi_1, rSlice_1, rSlice_2, mAppend_1, mExtend_1, mPop_1, mPop_2, mInsert_1, mUpper_1, rInT_1, eqR_rr, eqR_rs, eqR_ri, eqR_rb, eqR_rn, eqR_sr, eqR_ir, eqR_br, eqR_nr, isCol_l, isCol_t, isCol_d, isSeq_l, isSeq_t, iAny, wipe, tYes, List.isEmpty_nil, List.isEmpty_cons, truN_non, truN_bl, truN_int, tyN_non, tyN_bl, tyN_int, tyN_str, keyOf, scal_nn, scal_nb, scal_ni, scal_ns, scal_nr, scal_bn, scal_bb, scal_bs, scal_br, scal_in, scal_ii, scal_is, scal_ir, scal_sn, scal_sb, scal_si, scal_ss, scal_sr, scal_rn, scal_rb, scal_ri, scal_rs, scal_rr, decide_true, decide_false, List.map_cons, List.map_nil, List.set_cons_zero, List.set_cons_succ, List.getElem?_cons_zero, List.getElem?_cons_succ, List.getElem?_nil, exists_eq_left, exists_eq_left', V.bl.injEq, V.int.injEq, V.str.injEq, V.ref.injEq, if_true, if_false, ite_true, ite_false, Bool.false_eq_true, eq_self, true_and, and_true, decide_eq_true_eq, I2.rd, ea]
        have ne : ∀ z : Str, ¬ z = "" → 0 < z.length := fun z hz => by
          refine Nat.pos_of_ne_zero fun e => hz ?_
          obtain ⟨c⟩ := z
          have : c = #[] := Array.eq_empty_of_size_eq_zero e
          subst this
          rfl
        have hw : 0 < (s ++ if (if s = "" then (1 : Int) else 0) = 1 then ("a" : Str) else Str.empty).length ∧ (s ++ if (if s = "" then (1 : Int) else 0) = 1 then ("a" : Str) else Str.empty).length ≤ 100 ∧ asc (s ++ if (if s = "" then (1 : Int) else 0) = 1 then ("a" : Str) else Str.empty) = true := by
          by_cases z : s = ""
          · subst z
            decide +kernel
          · rw [if_neg z, if_neg (by decide), strLen_append]
            have := ne s z
            have e0 : Str.empty.length = 0 := rfl
            exact ⟨by omega, by omega, asc_append as (by decide)⟩
        refine ⟨by split <;> simp, by rw [← strLen_append]; omega, ?_⟩
        refine ⟨t, _, rfl, I2.p.b, hw, fun b H8 hb1 hb2 p8 => ?_⟩
        have I3 := I2.step p8
        simp only [tSeq, tIfS, tTest, tOp, tV, tC, tAsg, gName, gSub, tRet, tRetN, tCB, tCons, tNil, tDrop, tNext, tAnd, tOr, tNot, tAndV, tOrV, tNotV, tIf, tTru, tUn, tCallS, WE, tTup, tLst, tSl, tPart, tNoPart, tPar, tChain, tBM, tBM0, tM0, tM1, gTup, gCons, gNil, tInC, gC, gN, tCallK, tCst, tRevL, ok_str, ok_int, ok_bool, ok_tuple, ok_list, ok_dict, sub_str, sub_tup, sub_lst, sub_bool, sub_int, sub_dict, Bool.not_true, Bool.not_false, kisS_none, kisS_bool, kisS_int, kisS_str, kisS_list, kisS_tuple, kisS_dict, kisT_none, kisT_bool, kisT_int, kisT_str, kisT_list, kisT_tuple, kisT_dict, kisL_none, kisL_bool, kisL_int, kisL_str, kisL_list, kisL_tuple, kisL_dict, kisB_none, kisB_bool, kisB_int, kisB_str, kisB_list, kisB_tuple, kisB_dict, kisI_none, kisI_bool, kisI_int, kisI_str, kisI_list, kisI_tuple, kisI_dict, kisIB_none, kisIB_bool, kisIB_int, kisIB_str, kisIB_list, kisIB_tuple, kisIB_dict, kisD_none, kisD_bool, kisD_int, kisD_str, kisD_list, kisD_tuple, kisD_dict, rEqU, rNeU, rAdd_1, rAdd_2, rAdd_3, rAdd_4, rSub_1, rMul_1, rMul_2, rMul_3, rDiv_1, rMod_1, rPow_1, rNeg_1, rLt_1, rLe_1, rLe_2, rGt_1, rGe_1, rIs_1, rIs_2, rIsNot_1, rIsNot_2, rMem_1, rItem_1, rItem_2, rStore_1, rLen_1, rLen_2, rInt_1, rInt_2, rMax_1, rMin_1, rList_1, rTuple_1, rAbs_1, rIsi_1, rSlice_1, rSlice_2, mAppend_1, mExtend_1, mPop_1, mPop_2, mInsert_1, mUpper_1, rInT_1, eqR_rr, eqR_rs, eqR_ri, eqR_rb, eqR_rn, eqR_sr, eqR_ir, eqR_br, eqR_nr, isCol_l, isCol_t, isCol_d, isSeq_l, isSeq_t, iAny, wipe, tYes, List.isEmpty_nil, List.isEmpty_cons, truN_non, truN_bl, truN_int, tyN_non, tyN_bl, tyN_int, tyN_str, keyOf, scal_nn, scal_nb, scal_ni, scal_ns, scal_nr, scal_bn, scal_bb, scal_bs, scal_br, scal_in, scal_ii, scal_is, scal_ir, scal_sn, scal_sb, scal_si, scal_ss, scal_sr, scal_rn, scal_rb, scal_ri, scal_rs, scal_rr, decide_true, decide_false, List.map_cons, List.map_nil, List.set_cons_zero, List.set_cons_succ, List.getElem?_cons_zero, List.getElem?_cons_succ, List.getElem?_nil, exists_eq_left, exists_eq_left', V.bl.injEq, V.int.injEq, V.str.injEq, V.ref.injEq, if_true, if_false, ite_true, ite_false, Bool.false_eq_true, eq_self, true_and, and_true, decide_eq_true_eq, I3.at_]
        rw [ixN_of (by omega) (by omega)]
        exact go _ _ _ _ _ (I3.put (DrA.set (.str b) I3.A _)) (mem_set f0 (fine_asc hb1 (by omega))) (by rw [List.length_set]; exact z0)
    clear I0 f0 z0 c0
    intro x6 x7 xs ds H5 I0 f0 z0
    refine hN _ _ ?_; clear hN N
    refine sq fun N hN => ?_
    suffices go : ∀ v d H4, Fine 60000 4 d → Dr H4 v d → Tp t H1 H4 → N [some (.ref a), some (.int (0 + i)), some (.ref t), some (.int (0 + i')), some (.ref l), some (.int r), x6, x7, some v, x9] H4 by
      simp only [tSeq, tIfS, tTest, tOp, tV, tC, tAsg, gName, gSub, tRet, tRetN, tCB, tCons, tNil, tDrop, tNext, tAnd, tOr, tNot, tAndV, tOrV, tNotV, tIf, tTru, tUn, tCallS, WE, tTup, tLst, tSl, tPart, tNoPart, tPar, tChain, tBM, tBM0, tM0, tM1, gTup, gCons, gNil, tInC, gC, gN, tCallK, tCst, tRevL, ok_str, ok_int, ok_bool, ok_tuple, ok_list, ok_dict, sub_str, sub_tup, sub_lst, sub_bool, sub_int, sub_dict, Bool.not_true, Bool.not_false, kisS_none, kisS_bool, kisS_int, kisS_str, kisS_list, kisS_tuple, kisS_dict, kisT_none, kisT_bool, kisT_int, kisT_str, kisT_list, kisT_tuple, kisT_dict, kisL_none, kisL_bool, kisL_int, kisL_str, kisL_list, kisL_tuple, kisL_dict, kisB_none, kisB_bool, kisB_int, kisB_str, kisB_list, kisB_tuple, kisB_dict, kisI_none, kisI_bool, kisI_int, kisI_str, kisI_list, kisI_tuple, kisI_dict, kisIB_none, kisIB_bool, kisIB_int, kisIB_str, kisIB_list, kisIB_tuple, kisIB_dict, kisD_none, kisD_bool, kisD_int, kisD_str, kisD_list, kisD_tuple, kisD_dict, rEqU, rNeU, rAdd_1, rAdd_2, rAdd_3, rAdd_4, rSub_1, rMul_1, rMul_2, rMul_3, rDiv_1, rMod_1, rPow_1, rNeg_1, rLt_1, rLe_1, rLe_2, rGt_1, rGe_1, rIs_1, rIs_2, rIsNot_1, rIsNot_2, rMem_1, rItem_1, rItem_2, rStore_1, rLen_1, rLen_2, rInt_1, rInt_2, rMax_1, rMin_1, rList_1, rTuple_1, rAbs_1, rIsi_1, rSlice_1, rSlice_2, mAppend_1, mExtend_1, mPop_1, mPop_2, mInsert_1, mUpper_1, rInT_1, eqR_rr, eqR_rs, eqR_ri, eqR_rb, eqR_rn, eqR_sr, eqR_ir, eqR_br, eqR_nr, isCol_l, isCol_t, isCol_d, isSeq_l, isSeq_t, iAny, wipe, tYes, List.isEmpty_nil, List.isEmpty_cons, truN_non, truN_bl, truN_int, tyN_non, tyN_bl, tyN_int, tyN_str, keyOf, scal_nn, scal_nb, scal_ni, scal_ns, scal_nr, scal_bn, scal_bb, scal_bs, scal_br, scal_in, scal_ii, scal_is, scal_ir, scal_sn, scal_sb, scal_si, scal_ss, scal_sr, scal_rn, scal_rb, scal_ri, scal_rs, scal_rr, decide_true, decide_false, List.map_cons, List.map_nil, List.set_cons_zero, List.set_cons_succ, List.getElem?_cons_zero, List.getElem?_cons_succ, List.getElem?_nil, exists_eq_left, exists_eq_left', V.bl.injEq, V.int.injEq, V.str.injEq, V.ref.injEq, if_true, if_false, ite_true, ite_false, Bool.false_eq_true, eq_self, true_and, and_true, decide_eq_true_eq]
      refine ite2 (fun _ => ?_) (fun _ => ?_)
      · exact go _ _ _ (Fine.mono (fine_list f0 z0) (by decide) (by decide)) (Dr.ext newp_in I0.dr) (p2.trans I0.p)
      · simp only [tSeq, tIfS, tTest, tOp, tV, tC, tAsg, gName, gSub, tRet, tRetN, tCB, tCons, tNil, tDrop, tNext, tAnd, tOr, tNot, tAndV, tOrV, tNotV, tIf, tTru, tUn, tCallS, WE, tTup, tLst, tSl, tPart, tNoPart, tPar, tChain, tBM, tBM0, tM0, tM1, gTup, gCons, gNil, tInC, gC, gN, tCallK, tCst, tRevL, ok_str, ok_int, ok_bool, ok_tuple, ok_list, ok_dict, sub_str, sub_tup, sub_lst, sub_bool, sub_int, sub_dict, Bool.not_true, Bool.not_false, kisS_none, kisS_bool, kisS_int, kisS_str, kisS_list, kisS_tuple, kisS_dict, kisT_none, kisT_bool, kisT_int, kisT_str, kisT_list, kisT_tuple, kisT_dict, kisL_none, kisL_bool, kisL_int, kisL_str, kisL_list, kisL_tuple, kisL_dict, kisB_none, kisB_bool, kisB_int, kisB_str, kisB_list, kisB_tuple, kisB_dict, kisI_none, kisI_bool, kisI_int, kisI_str, kisI_list, kisI_tuple, kisI_dict, kisIB_none, kisIB_bool, kisIB_int, kisIB_str, kisIB_list, kisIB_tuple, kisIB_dict, kisD_none, kisD_bool, kisD_int, kisD_str, kisD_list, kisD_tuple, kisD_dict, rEqU, rNeU, rAdd_1, rAdd_2, rAdd_3, rAdd_4, rSub_1, rMul_1, rMul_2, rMul_3, rDiv_1, rMod_1, rPow_1, rNeg_1, rLt_1, rLe_1, rLe_2, rGt_1, rGe_1, rIs_1, rIs_2, rIsNot_1, rIsNot_2, rMem_1, rItem_1, rItem_2, rStore_1, rLen_1, rLen_2, rInt_1, rInt_2, rMax_1, rMin_1, rList_1, rTuple_1, rAbs_1, rIsi_1, rSlice_1, rSlice_2, mAppend_1, mExtend_1, mPop_1, mPop_2, mInsert_1, mUpper_1, rInT_1, eqR_rr, eqR_rs, eqR_ri, eqR_rb, eqR_rn, eqR_sr, eqR_ir, eqR_br, eqR_nr, isCol_l, isCol_t, isCol_d, isSeq_l, isSeq_t, iAny, wipe, tYes, List.isEmpty_nil, List.isEmpty_cons, truN_non, truN_bl, truN_int, tyN_non, tyN_bl, tyN_int, tyN_str, keyOf, scal_nn, scal_nb, scal_ni, scal_ns, scal_nr, scal_bn, scal_bb, scal_bs, scal_br, scal_in, scal_ii, scal_is, scal_ir, scal_sn, scal_sb, scal_si, scal_ss, scal_sr, scal_rn, scal_rb, scal_ri, scal_rs, scal_rr, decide_true, decide_false, List.map_cons, List.map_nil, List.set_cons_zero, List.set_cons_succ, List.getElem?_cons_zero, List.getElem?_cons_succ, List.getElem?_nil, exists_eq_left, exists_eq_left', V.bl.injEq, V.int.injEq, V.str.injEq, V.ref.injEq, if_true, if_false, ite_true, ite_false, Bool.false_eq_true, eq_self, true_and, and_true, decide_eq_true_eq, I0.rd]
        intro p hp
        obtain ⟨q1, q2⟩ := I0.tup hp
        exact go _ _ _ (Fine.mono (fine_tup f0 z0) (by decide) (by decide)) (Dr.ext newp_in q2) (p2.trans q1)
    clear I0 f0 z0 p2
    intro v d H2 fd hd p2
    refine hN _ _ ?_; clear hN N
    refine sq fun N hN => ?_
    suffices go : ∀ v d H4, Fine 60000 4 d → Dr H4 v d → Tp t H1 H4 → N [some (.ref a), some (.int (0 + i)), some (.ref t), some (.int (0 + i')), some (.ref l), some (.int r), x6, x7, some v, x9] H4 by
      simp only [tSeq, tIfS, tTest, tOp, tV, tC, tAsg, gName, gSub, tRet, tRetN, tCB, tCons, tNil, tDrop, tNext, tAnd, tOr, tNot, tAndV, tOrV, tNotV, tIf, tTru, tUn, tCallS, WE, tTup, tLst, tSl, tPart, tNoPart, tPar, tChain, tBM, tBM0, tM0, tM1, gTup, gCons, gNil, tInC, gC, gN, tCallK, tCst, tRevL, ok_str, ok_int, ok_bool, ok_tuple, ok_list, ok_dict, sub_str, sub_tup, sub_lst, sub_bool, sub_int, sub_dict, Bool.not_true, Bool.not_false, kisS_none, kisS_bool, kisS_int, kisS_str, kisS_list, kisS_tuple, kisS_dict, kisT_none, kisT_bool, kisT_int, kisT_str, kisT_list, kisT_tuple, kisT_dict, kisL_none, kisL_bool, kisL_int, kisL_str, kisL_list, kisL_tuple, kisL_dict, kisB_none, kisB_bool, kisB_int, kisB_str, kisB_list, kisB_tuple, kisB_dict, kisI_none, kisI_bool, kisI_int, kisI_str, kisI_list, kisI_tuple, kisI_dict, kisIB_none, kisIB_bool, kisIB_int, kisIB_str, kisIB_list, kisIB_tuple, kisIB_dict, kisD_none, kisD_bool, kisD_int, kisD_str, kisD_list, kisD_tuple, kisD_dict, rEqU, rNeU, rAdd_1, rAdd_2, rAdd_3, rAdd_4, rSub_1, rMul_1, rMul_2, rMul_3, rDiv_1, rMod_1, rPow_1, rNeg_1, rLt_1, rLe_1, rLe_2, rGt_1, rGe_1, rIs_1, rIs_2, rIsNot_1, rIsNot_2, rMem_1, rItem_1, rItem_2, rStore_1, rLen_1, rLen_2, rInt_1, rInt_2, rMax_1, rMin_1, rList_1, rTuple_1, rAbs_1, rIsi_1, rSlice_1, rSlice_2, mAppend_1, mExtend_1, mPop_1, mPop_2, mInsert_1, mUpper_1, rInT_1, eqR_rr, eqR_rs, eqR_ri, eqR_rb, eqR_rn, eqR_sr, eqR_ir, eqR_br, eqR_nr, isCol_l, isCol_t, isCol_d, isSeq_l, isSeq_t, iAny, wipe, tYes, List.isEmpty_nil, List.isEmpty_cons, truN_non, truN_bl, truN_int, tyN_non, tyN_bl, tyN_int, tyN_str, keyOf, scal_nn, scal_nb, scal_ni, scal_ns, scal_nr, scal_bn, scal_bb, scal_bs, scal_br, scal_in, scal_ii, scal_is, scal_ir, scal_sn, scal_sb, scal_si, scal_ss, scal_sr, scal_rn, scal_rb, scal_ri, scal_rs, scal_rr, decide_true, decide_false, List.map_cons, List.map_nil, List.set_cons_zero, List.set_cons_succ, List.getElem?_cons_zero, List.getElem?_cons_succ, List.getElem?_nil, exists_eq_left, exists_eq_left', V.bl.injEq, V.int.injEq, V.str.injEq, V.ref.injEq, if_true, if_false, ite_true, ite_false, Bool.false_eq_true, eq_self, true_and, and_true, decide_eq_true_eq]
      refine ite2 (fun _ => ?_) (fun _ => go _ _ _ fd hd p2)
      refine ⟨t, rfl, p2.b, fun v d H4 hd dv p4 => ?_⟩
      exact go v d H4 (Fine.mono (any_fine d hd) (by decide) (by decide)) (Dr.ext newp_in dv) (p2.trans p4)
    clear fd hd p2
    intro v d H2 fd hd p2
    obtain ⟨sh1, sh2, sh3⟩ := fd.shows (Nat.le_trans (by decide) size_big) (by decide)
    have bs : ∀ b : Bool, (PyData.bool b).showable = true ∧ (PyData.bool b).shown.length ≤ sizeLine ∧ (PyData.bool b).depth ≤ 60 := fun b => Fine.shows (fine_bool (n := 5) (k := 0)) (Nat.le_trans (by decide) size_big) (by decide)
    refine hN _ _ ?_; clear hN N
    refine sq fun N hN => ?_
    simp only [tSeq, tIfS, tTest, tOp, tV, tC, tAsg, gName, gSub, tRet, tRetN, tCB, tCons, tNil, tDrop, tNext, tAnd, tOr, tNot, tAndV, tOrV, tNotV, tIf, tTru, tUn, tCallS, WE, tTup, tLst, tSl, tPart, tNoPart, tPar, tChain, tBM, tBM0, tM0, tM1, gTup, gCons, gNil, tInC, gC, gN, tCallK, tCst, tRevL, ok_str, ok_int, ok_bool, ok_tuple, ok_list, ok_dict, sub_str, sub_tup, sub_lst, sub_bool, sub_int, sub_dict, Bool.not_true, Bool.not_false, kisS_none, kisS_bool, kisS_int, kisS_str, kisS_list, kisS_tuple, kisS_dict, kisT_none, kisT_bool, kisT_int, kisT_str, kisT_list, kisT_tuple, kisT_dict, kisL_none, kisL_bool, kisL_int, kisL_str, kisL_list, kisL_tuple, kisL_dict, kisB_none, kisB_bool, kisB_int, kisB_str, kisB_list, kisB_tuple, kisB_dict, kisI_none, kisI_bool, kisI_int, kisI_str, kisI_list, kisI_tuple, kisI_dict, kisIB_none, kisIB_bool, kisIB_int, kisIB_str, kisIB_list, kisIB_tuple, kisIB_dict, kisD_none, kisD_bool, kisD_int, kisD_str, kisD_list, kisD_tuple, kisD_dict, rEqU, rNeU, rAdd_1, rAdd_2, rAdd_3, rAdd_4, rSub_1, rMul_1, rMul_2, rMul_3, rDiv_1, rMod_1, rPow_1, rNeg_1, rLt_1, rLe_1, rLe_2, rGt_1, rGe_1, rIs_1, rIs_2, rIsNot_1, rIsNot_2, rMem_1, rItem_1, rItem_2, rStore_1, rLen_1, rLen_2, rInt_1, rInt_2, rMax_1, rMin_1, rList_1, rTuple_1, rAbs_1, rIsi_1, rSlice_1, rSlice_2, mAppend_1, mExtend_1, mPop_1, mPop_2, mInsert_1, mUpper_1, rInT_1, eqR_rr, eqR_rs, eqR_ri, eqR_rb, eqR_rn, eqR_sr, eqR_ir, eqR_br, eqR_nr, isCol_l, isCol_t, isCol_d, isSeq_l, isSeq_t, iAny, wipe, tYes, List.isEmpty_nil, List.isEmpty_cons, truN_non, truN_bl, truN_int, tyN_non, tyN_bl, tyN_int, tyN_str, keyOf, scal_nn, scal_nb, scal_ni, scal_ns, scal_nr, scal_bn, scal_bb, scal_bs, scal_br, scal_in, scal_ii, scal_is, scal_ir, scal_sn, scal_sb, scal_si, scal_ss, scal_sr, scal_rn, scal_rb, scal_ri, scal_rs, scal_rr, decide_true, decide_false, List.map_cons, List.map_nil, List.set_cons_zero, List.set_cons_succ, List.getElem?_cons_zero, List.getElem?_cons_succ, List.getElem?_nil, exists_eq_left, exists_eq_left', V.bl.injEq, V.int.injEq, V.str.injEq, V.ref.injEq, if_true, if_false, ite_true, ite_false, Bool.false_eq_true, eq_self, true_and, and_true, decide_eq_true_eq]
    refine ⟨v, d, rfl, hd, sh1, sh2, sh3, ?_⟩
    refine hN _ _ ?_; clear hN N
    simp only [tSeq, tIfS, tTest, tOp, tV, tC, tAsg, gName, gSub, tRet, tRetN, tCB, tCons, tNil, tDrop, tNext, tAnd, tOr, tNot, tAndV, tOrV, tNotV, tIf, tTru, tUn, tCallS, WE, tTup, tLst, tSl, tPart, tNoPart, tPar, tChain, tBM, tBM0, tM0, tM1, gTup, gCons, gNil, tInC, gC, gN, tCallK, tCst, tRevL, ok_str, ok_int, ok_bool, ok_tuple, ok_list, ok_dict, sub_str, sub_tup, sub_lst, sub_bool, sub_int, sub_dict, Bool.not_true, Bool.not_false, kisS_none, kisS_bool, kisS_int, kisS_str, kisS_list, kisS_tuple, kisS_dict, kisT_none, kisT_bool, kisT_int, kisT_str, kisT_list, kisT_tuple, kisT_dict, kisL_none, kisL_bool, kisL_int, kisL_str, kisL_list, kisL_tuple, kisL_dict, kisB_none, kisB_bool, kisB_int, kisB_str, kisB_list, kisB_tuple, kisB_dict, kisI_none, kisI_bool, kisI_int, kisI_str, kisI_list, kisI_tuple, kisI_dict, kisIB_none, kisIB_bool, kisIB_int, kisIB_str, kisIB_list, kisIB_tuple, kisIB_dict, kisD_none, kisD_bool, kisD_int, kisD_str, kisD_list, kisD_tuple, kisD_dict, rEqU, rNeU, rAdd_1, rAdd_2, rAdd_3, rAdd_4, rSub_1, rMul_1, rMul_2, rMul_3, rDiv_1, rMod_1, rPow_1, rNeg_1, rLt_1, rLe_1, rLe_2, rGt_1, rGe_1, rIs_1, rIs_2, rIsNot_1, rIsNot_2, rMem_1, rItem_1, rItem_2, rStore_1, rLen_1, rLen_2, rInt_1, rInt_2, rMax_1, rMin_1, rList_1, rTuple_1, rAbs_1, rIsi_1, rSlice_1, rSlice_2, mAppend_1, mExtend_1, mPop_1, mPop_2, mInsert_1, mUpper_1, rInT_1, eqR_rr, eqR_rs, eqR_ri, eqR_rb, eqR_rn, eqR_sr, eqR_ir, eqR_br, eqR_nr, isCol_l, isCol_t, isCol_d, isSeq_l, isSeq_t, iAny, wipe, tYes, List.isEmpty_nil, List.isEmpty_cons, truN_non, truN_bl, truN_int, tyN_non, tyN_bl, tyN_int, tyN_str, keyOf, scal_nn, scal_nb, scal_ni, scal_ns, scal_nr, scal_bn, scal_bb, scal_bs, scal_br, scal_in, scal_ii, scal_is, scal_ir, scal_sn, scal_sb, scal_si, scal_ss, scal_sr, scal_rn, scal_rb, scal_ri, scal_rs, scal_rr, decide_true, decide_false, List.map_cons, List.map_nil, List.set_cons_zero, List.set_cons_succ, List.getElem?_cons_zero, List.getElem?_cons_succ, List.getElem?_nil, exists_eq_left, exists_eq_left', V.bl.injEq, V.int.injEq, V.str.injEq, V.ref.injEq, if_true, if_false, ite_true, ite_false, Bool.false_eq_true, eq_self, true_and, and_true, decide_eq_true_eq]
    refine ⟨v, d, rfl, hd, fd.all, fun H5 e5 => ?_⟩
    refine ⟨.bl _, .bool (isOp d), rfl, .bl _, (bs _).1, (bs _).2.1, (bs _).2.2, ?_⟩
    refine ⟨v, d, rfl, hd.ext e5, fd.all, fun H6 e6 => ?_⟩
    refine ⟨.bl _, .bool (isOp d), rfl, .bl _, (bs _).1, (bs _).2.1, (bs _).2.2, ?_⟩
    simp only [tSeq, tIfS, tTest, tOp, tV, tC, tAsg, gName, gSub, tRet, tRetN, tCB, tCons, tNil, tDrop, tNext, tAnd, tOr, tNot, tAndV, tOrV, tNotV, tIf, tTru, tUn, tCallS, WE, tTup, tLst, tSl, tPart, tNoPart, tPar, tChain, tBM, tBM0, tM0, tM1, gTup, gCons, gNil, tInC, gC, gN, tCallK, tCst, tRevL, ok_str, ok_int, ok_bool, ok_tuple, ok_list, ok_dict, sub_str, sub_tup, sub_lst, sub_bool, sub_int, sub_dict, Bool.not_true, Bool.not_false, kisS_none, kisS_bool, kisS_int, kisS_str, kisS_list, kisS_tuple, kisS_dict, kisT_none, kisT_bool, kisT_int, kisT_str, kisT_list, kisT_tuple, kisT_dict, kisL_none, kisL_bool, kisL_int, kisL_str, kisL_list, kisL_tuple, kisL_dict, kisB_none, kisB_bool, kisB_int, kisB_str, kisB_list, kisB_tuple, kisB_dict, kisI_none, kisI_bool, kisI_int, kisI_str, kisI_list, kisI_tuple, kisI_dict, kisIB_none, kisIB_bool, kisIB_int, kisIB_str, kisIB_list, kisIB_tuple, kisIB_dict, kisD_none, kisD_bool, kisD_int, kisD_str, kisD_list, kisD_tuple, kisD_dict, rEqU, rNeU, rAdd_1, rAdd_2, rAdd_3, rAdd_4, rSub_1, rMul_1, rMul_2, rMul_3, rDiv_1, rMod_1, rPow_1, rNeg_1, rLt_1, rLe_1, rLe_2, rGt_1, rGe_1, rIs_1, rIs_2, rIsNot_1, rIsNot_2, rMem_1, rItem_1, rItem_2, rStore_1, rLen_1, rLen_2, rInt_1, rInt_2, rMax_1, rMin_1, rList_1, rTuple_1, rAbs_1, rIsi_1, rSlice_1, rSlice_2, mAppend_1, mExtend_1, mPop_1, mPop_2, mInsert_1, mUpper_1, rInT_1, eqR_rr, eqR_rs, eqR_ri, eqR_rb, eqR_rn, eqR_sr, eqR_ir, eqR_br, eqR_nr, isCol_l, isCol_t, isCol_d, isSeq_l, isSeq_t, iAny, wipe, tYes, List.isEmpty_nil, List.isEmpty_cons, truN_non, truN_bl, truN_int, tyN_non, tyN_bl, tyN_int, tyN_str, keyOf, scal_nn, scal_nb, scal_ni, scal_ns, scal_nr, scal_bn, scal_bb, scal_bs, scal_br, scal_in, scal_ii, scal_is, scal_ir, scal_sn, scal_sb, scal_si, scal_ss, scal_sr, scal_rn, scal_rb, scal_ri, scal_rs, scal_rr, decide_true, decide_false, List.map_cons, List.map_nil, List.set_cons_zero, List.set_cons_succ, List.getElem?_cons_zero, List.getElem?_cons_succ, List.getElem?_nil, exists_eq_left, exists_eq_left', V.bl.injEq, V.int.injEq, V.str.injEq, V.ref.injEq, if_true, if_false, ite_true, ite_false, Bool.false_eq_true, eq_self, true_and, and_true, decide_eq_true_eq]
    refine ⟨v, d, rfl, (hd.ext e5).ext e6, sh1, sh2, sh3, ?_⟩
    simp only [tSeq, tIfS, tTest, tOp, tV, tC, tAsg, gName, gSub, tRet, tRetN, tCB, tCons, tNil, tDrop, tNext, tAnd, tOr, tNot, tAndV, tOrV, tNotV, tIf, tTru, tUn, tCallS, WE, tTup, tLst, tSl, tPart, tNoPart, tPar, tChain, tBM, tBM0, tM0, tM1, gTup, gCons, gNil, tInC, gC, gN, tCallK, tCst, tRevL, ok_str, ok_int, ok_bool, ok_tuple, ok_list, ok_dict, sub_str, sub_tup, sub_lst, sub_bool, sub_int, sub_dict, Bool.not_true, Bool.not_false, kisS_none, kisS_bool, kisS_int, kisS_str, kisS_list, kisS_tuple, kisS_dict, kisT_none, kisT_bool, kisT_int, kisT_str, kisT_list, kisT_tuple, kisT_dict, kisL_none, kisL_bool, kisL_int, kisL_str, kisL_list, kisL_tuple, kisL_dict, kisB_none, kisB_bool, kisB_int, kisB_str, kisB_list, kisB_tuple, kisB_dict, kisI_none, kisI_bool, kisI_int, kisI_str, kisI_list, kisI_tuple, kisI_dict, kisIB_none, kisIB_bool, kisIB_int, kisIB_str, kisIB_list, kisIB_tuple, kisIB_dict, kisD_none, kisD_bool, kisD_int, kisD_str, kisD_list, kisD_tuple, kisD_dict, rEqU, rNeU, rAdd_1, rAdd_2, rAdd_3, rAdd_4, rSub_1, rMul_1, rMul_2, rMul_3, rDiv_1, rMod_1, rPow_1, rNeg_1, rLt_1, rLe_1, rLe_2, rGt_1, rGe_1, rIs_1, rIs_2, rIsNot_1, rIsNot_2, rMem_1, rItem_1, rItem_2, rStore_1, rLen_1, rLen_2, rInt_1, rInt_2, rMax_1, rMin_1, rList_1, rTuple_1, rAbs_1, rIsi_1, rSlice_1, rSlice_2, mAppend_1, mExtend_1, mPop_1, mPop_2, mInsert_1, mUpper_1, rInT_1, eqR_rr, eqR_rs, eqR_ri, eqR_rb, eqR_rn, eqR_sr, eqR_ir, eqR_br, eqR_nr, isCol_l, isCol_t, isCol_d, isSeq_l, isSeq_t, iAny, wipe, tYes, List.isEmpty_nil, List.isEmpty_cons, truN_non, truN_bl, truN_int, tyN_non, tyN_bl, tyN_int, tyN_str, keyOf, scal_nn, scal_nb, scal_ni, scal_ns, scal_nr, scal_bn, scal_bb, scal_bs, scal_br, scal_in, scal_ii, scal_is, scal_ir, scal_sn, scal_sb, scal_si, scal_ss, scal_sr, scal_rn, scal_rb, scal_ri, scal_rs, scal_rr, decide_true, decide_false, List.map_cons, List.map_nil, List.set_cons_zero, List.set_cons_succ, List.getElem?_cons_zero, List.getElem?_cons_succ, List.getElem?_nil, exists_eq_left, exists_eq_left', V.bl.injEq, V.int.injEq, V.str.injEq, V.ref.injEq, if_true, if_false, ite_true, ite_false, Bool.false_eq_true, eq_self, true_and, and_true, decide_eq_true_eq]
    exact ⟨p2.trans (Tp.of_ext p2.b (e5.trans e6)), _, _, _, _, _, _, _, rfl⟩
  intro s1 s2 s3 s4 s5 s6 s7 s8 s9 H'
  refine hN _ _ ?_; clear hN N
  simp only [tSeq, tIfS, tTest, tOp, tV, tC, tAsg, gName, gSub, tRet, tRetN, tCB, tCons, tNil, tDrop, tNext, tAnd, tOr, tNot, tAndV, tOrV, tNotV, tIf, tTru, tUn, tCallS, WE, tTup, tLst, tSl, tPart, tNoPart, tPar, tChain, tBM, tBM0, tM0, tM1, gTup, gCons, gNil, tInC, gC, gN, tCallK, tCst, tRevL, ok_str, ok_int, ok_bool, ok_tuple, ok_list, ok_dict, sub_str, sub_tup, sub_lst, sub_bool, sub_int, sub_dict, Bool.not_true, Bool.not_false, kisS_none, kisS_bool, kisS_int, kisS_str, kisS_list, kisS_tuple, kisS_dict, kisT_none, kisT_bool, kisT_int, kisT_str, kisT_list, kisT_tuple, kisT_dict, kisL_none, kisL_bool, kisL_int, kisL_str, kisL_list, kisL_tuple, kisL_dict, kisB_none, kisB_bool, kisB_int, kisB_str, kisB_list, kisB_tuple, kisB_dict, kisI_none, kisI_bool, kisI_int, kisI_str, kisI_list, kisI_tuple, kisI_dict, kisIB_none, kisIB_bool, kisIB_int, kisIB_str, kisIB_list, kisIB_tuple, kisIB_dict, kisD_none, kisD_bool, kisD_int, kisD_str, kisD_list, kisD_tuple, kisD_dict, rEqU, rNeU, rAdd_1, rAdd_2, rAdd_3, rAdd_4, rSub_1, rMul_1, rMul_2, rMul_3, rDiv_1, rMod_1, rPow_1, rNeg_1, rLt_1, rLe_1, rLe_2, rGt_1, rGe_1, rIs_1, rIs_2, rIsNot_1, rIsNot_2, rMem_1, rItem_1, rItem_2, rStore_1, rLen_1, rLen_2, rInt_1, rInt_2, rMax_1, rMin_1, rList_1, rTuple_1, rAbs_1, rIsi_1, rSlice_1, rSlice_2, mAppend_1, mExtend_1, mPop_1, mPop_2, mInsert_1, mUpper_1, rInT_1, eqR_rr, eqR_rs, eqR_ri, eqR_rb, eqR_rn, eqR_sr, eqR_ir, eqR_br, eqR_nr, isCol_l, isCol_t, isCol_d, isSeq_l, isSeq_t, iAny, wipe, tYes, List.isEmpty_nil, List.isEmpty_cons, truN_non, truN_bl, truN_int, tyN_non, tyN_bl, tyN_int, tyN_str, keyOf, scal_nn, scal_nb, scal_ni, scal_ns, scal_nr, scal_bn, scal_bb, scal_bs, scal_br, scal_in, scal_ii, scal_is, scal_ir, scal_sn, scal_sb, scal_si, scal_ss, scal_sr, scal_rn, scal_rb, scal_ri, scal_rs, scal_rr, decide_true, decide_false, List.map_cons, List.map_nil, List.set_cons_zero, List.set_cons_succ, List.getElem?_cons_zero, List.getElem?_cons_succ, List.getElem?_nil, exists_eq_left, exists_eq_left', V.bl.injEq, V.int.injEq, V.str.injEq, V.ref.injEq, if_true, if_false, ite_true, ite_false, Bool.false_eq_true, eq_self, true_and, and_true, decide_eq_true_eq]
  intro v1 H1 e1 L1
  have f1 : Fine 60000 4 (.tuple [.str "clean"]) := show fineB _ _ _ = true by decide +kernel
  refine ⟨rfl, rfl, v1, _, rfl, Dr.ext newp_in L1, f1.all, fun H2 e2 => ?_⟩
  rw [show isOp (.tuple [.str "clean"]) = true by decide +kernel]
  simp only [tSeq, tIfS, tTest, tOp, tV, tC, tAsg, gName, gSub, tRet, tRetN, tCB, tCons, tNil, tDrop, tNext, tAnd, tOr, tNot, tAndV, tOrV, tNotV, tIf, tTru, tUn, tCallS, WE, tTup, tLst, tSl, tPart, tNoPart, tPar, tChain, tBM, tBM0, tM0, tM1, gTup, gCons, gNil, tInC, gC, gN, tCallK, tCst, tRevL, ok_str, ok_int, ok_bool, ok_tuple, ok_list, ok_dict, sub_str, sub_tup, sub_lst, sub_bool, sub_int, sub_dict, Bool.not_true, Bool.not_false, kisS_none, kisS_bool, kisS_int, kisS_str, kisS_list, kisS_tuple, kisS_dict, kisT_none, kisT_bool, kisT_int, kisT_str, kisT_list, kisT_tuple, kisT_dict, kisL_none, kisL_bool, kisL_int, kisL_str, kisL_list, kisL_tuple, kisL_dict, kisB_none, kisB_bool, kisB_int, kisB_str, kisB_list, kisB_tuple, kisB_dict, kisI_none, kisI_bool, kisI_int, kisI_str, kisI_list, kisI_tuple, kisI_dict, kisIB_none, kisIB_bool, kisIB_int, kisIB_str, kisIB_list, kisIB_tuple, kisIB_dict, kisD_none, kisD_bool, kisD_int, kisD_str, kisD_list, kisD_tuple, kisD_dict, rEqU, rNeU, rAdd_1, rAdd_2, rAdd_3, rAdd_4, rSub_1, rMul_1, rMul_2, rMul_3, rDiv_1, rMod_1, rPow_1, rNeg_1, rLt_1, rLe_1, rLe_2, rGt_1, rGe_1, rIs_1, rIs_2, rIsNot_1, rIsNot_2, rMem_1, rItem_1, rItem_2, rStore_1, rLen_1, rLen_2, rInt_1, rInt_2, rMax_1, rMin_1, rList_1, rTuple_1, rAbs_1, rIsi_1, rSlice_1, rSlice_2, mAppend_1, mExtend_1, mPop_1, mPop_2, mInsert_1, mUpper_1, rInT_1, eqR_rr, eqR_rs, eqR_ri, eqR_rb, eqR_rn, eqR_sr, eqR_ir, eqR_br, eqR_nr, isCol_l, isCol_t, isCol_d, isSeq_l, isSeq_t, iAny, wipe, tYes, List.isEmpty_nil, List.isEmpty_cons, truN_non, truN_bl, truN_int, tyN_non, tyN_bl, tyN_int, tyN_str, keyOf, scal_nn, scal_nb, scal_ni, scal_ns, scal_nr, scal_bn, scal_bb, scal_bs, scal_br, scal_in, scal_ii, scal_is, scal_ir, scal_sn, scal_sb, scal_si, scal_ss, scal_sr, scal_rn, scal_rb, scal_ri, scal_rs, scal_rr, decide_true, decide_false, List.map_cons, List.map_nil, List.set_cons_zero, List.set_cons_succ, List.getElem?_cons_zero, List.getElem?_cons_succ, List.getElem?_nil, exists_eq_left, exists_eq_left', V.bl.injEq, V.int.injEq, V.str.injEq, V.ref.injEq, if_true, if_false, ite_true, ite_false, Bool.false_eq_true, eq_self, true_and, and_true, decide_eq_true_eq]
  intro v3 H3 e3 L3
  have f3 : Fine 60000 4 (.tuple [.str "lock", .int 1, .str "x", .str "hold", .int 5]) := show fineB _ _ _ = true by decide +kernel
  refine ⟨v3, _, rfl, Dr.ext newp_in L3, f3.all, fun H4 e4 => ?_⟩
  rw [show isOp (.tuple [.str "lock", .int 1, .str "x", .str "hold", .int 5]) = false by decide +kernel]
  simp only [tSeq, tIfS, tTest, tOp, tV, tC, tAsg, gName, gSub, tRet, tRetN, tCB, tCons, tNil, tDrop, tNext, tAnd, tOr, tNot, tAndV, tOrV, tNotV, tIf, tTru, tUn, tCallS, WE, tTup, tLst, tSl, tPart, tNoPart, tPar, tChain, tBM, tBM0, tM0, tM1, gTup, gCons, gNil, tInC, gC, gN, tCallK, tCst, tRevL, ok_str, ok_int, ok_bool, ok_tuple, ok_list, ok_dict, sub_str, sub_tup, sub_lst, sub_bool, sub_int, sub_dict, Bool.not_true, Bool.not_false, kisS_none, kisS_bool, kisS_int, kisS_str, kisS_list, kisS_tuple, kisS_dict, kisT_none, kisT_bool, kisT_int, kisT_str, kisT_list, kisT_tuple, kisT_dict, kisL_none, kisL_bool, kisL_int, kisL_str, kisL_list, kisL_tuple, kisL_dict, kisB_none, kisB_bool, kisB_int, kisB_str, kisB_list, kisB_tuple, kisB_dict, kisI_none, kisI_bool, kisI_int, kisI_str, kisI_list, kisI_tuple, kisI_dict, kisIB_none, kisIB_bool, kisIB_int, kisIB_str, kisIB_list, kisIB_tuple, kisIB_dict, kisD_none, kisD_bool, kisD_int, kisD_str, kisD_list, kisD_tuple, kisD_dict, rEqU, rNeU, rAdd_1, rAdd_2, rAdd_3, rAdd_4, rSub_1, rMul_1, rMul_2, rMul_3, rDiv_1, rMod_1, rPow_1, rNeg_1, rLt_1, rLe_1, rLe_2, rGt_1, rGe_1, rIs_1, rIs_2, rIsNot_1, rIsNot_2, rMem_1, rItem_1, rItem_2, rStore_1, rLen_1, rLen_2, rInt_1, rInt_2, rMax_1, rMin_1, rList_1, rTuple_1, rAbs_1, rIsi_1, rSlice_1, rSlice_2, mAppend_1, mExtend_1, mPop_1, mPop_2, mInsert_1, mUpper_1, rInT_1, eqR_rr, eqR_rs, eqR_ri, eqR_rb, eqR_rn, eqR_sr, eqR_ir, eqR_br, eqR_nr, isCol_l, isCol_t, isCol_d, isSeq_l, isSeq_t, iAny, wipe, tYes, List.isEmpty_nil, List.isEmpty_cons, truN_non, truN_bl, truN_int, tyN_non, tyN_bl, tyN_int, tyN_str, keyOf, scal_nn, scal_nb, scal_ni, scal_ns, scal_nr, scal_bn, scal_bb, scal_bs, scal_br, scal_in, scal_ii, scal_is, scal_ir, scal_sn, scal_sb, scal_si, scal_ss, scal_sr, scal_rn, scal_rb, scal_ri, scal_rs, scal_rr, decide_true, decide_false, List.map_cons, List.map_nil, List.set_cons_zero, List.set_cons_succ, List.getElem?_cons_zero, List.getElem?_cons_succ, List.getElem?_nil, exists_eq_left, exists_eq_left', V.bl.injEq, V.int.injEq, V.str.injEq, V.ref.injEq, if_true, if_false, ite_true, ite_false, Bool.false_eq_true, eq_self, true_and, and_true, decide_eq_true_eq]
  exact k _
end
end Rm
namespace Rm
open PySem PySem.Spec L2
open PyProof.Rows hiding St
def dd_is_mode : He.DefD := ⟨("is_mode", none), "is_mode", "is_mode", defArgs s_is_mode, defBody s_is_mode, defScope s_is_mode, [], []⟩
def dd_is_change_mode : He.DefD := ⟨("is_change_mode", none), "is_change_mode", "is_change_mode", defArgs s_is_change_mode, defBody s_is_change_mode, defScope s_is_change_mode, [], []⟩
def dd_is_integer : He.DefD := ⟨("is_integer", none), "is_integer", "is_integer", defArgs s_is_integer, defBody s_is_integer, defScope s_is_integer, [], []⟩
def dd_is_from_to : He.DefD := ⟨("is_from_to", none), "is_from_to", "is_from_to", defArgs s_is_from_to, defBody s_is_from_to, defScope s_is_from_to, [], []⟩
def dd_law_tape : He.DefD := ⟨("_law_tape", none), "_law_tape", "_law_tape", defArgs s_law_tape, defBody s_law_tape, defScope s_law_tape, [], []⟩
def dd_law_pick : He.DefD := ⟨("_law_pick", none), "_law_pick", "_law_pick", defArgs s_law_pick, defBody s_law_pick, defScope s_law_pick, [], []⟩
def dd_law_one_of : He.DefD := ⟨("_law_one_of", none), "_law_one_of", "_law_one_of", defArgs s_law_one_of, defBody s_law_one_of, defScope s_law_one_of, [], []⟩
def dd_law_any : He.DefD := ⟨("_law_any", none), "_law_any", "_law_any", defArgs s_law_any, defBody s_law_any, defScope s_law_any, [], []⟩
def dd_law_bent_word : He.DefD := ⟨("_law_bent_word", none), "_law_bent_word", "_law_bent_word", defArgs s_law_bent_word, defBody s_law_bent_word, defScope s_law_bent_word, [], []⟩
def dd_is_name : He.DefD := ⟨("is_name", none), "is_name", "is_name", defArgs s_is_name, defBody s_is_name, defScope s_is_name, [], []⟩
def dd_is_value : He.DefD := ⟨("is_value", none), "is_value", "is_value", defArgs s_is_value, defBody s_is_value, defScope s_is_value, [], []⟩
def dd_is_request : He.DefD := ⟨("is_request", none), "is_request", "is_request", defArgs s_is_request, defBody s_is_request, defScope s_is_request, [], []⟩
def dd_is_operation : He.DefD := ⟨("is_operation", none), "is_operation", "is_operation", defArgs s_is_operation, defBody s_is_operation, defScope s_is_operation, [], []⟩
def dd_law_is_among : He.DefD := ⟨("_law_is_among", none), "_law_is_among", "_law_is_among", defArgs s_law_is_among, defBody s_law_is_among, defScope s_law_is_among, [], []⟩
def dd_law_is_name : He.DefD := ⟨("_law_is_name", none), "_law_is_name", "_law_is_name", defArgs s_law_is_name, defBody s_law_is_name, defScope s_law_is_name, [], []⟩
def dd_law_is_deed : He.DefD := ⟨("_law_is_deed", none), "_law_is_deed", "_law_is_deed", defArgs s_law_is_deed, defBody s_law_is_deed, defScope s_law_is_deed, [], []⟩
def dd_law_nym : He.DefD := ⟨("_law_nym", none), "_law_nym", "_law_nym", defArgs s_law_nym, defBody s_law_nym, defScope s_law_nym, [], []⟩
def dd_law_good : He.DefD := ⟨("_law_good", none), "_law_good", "_law_good", defArgs s_law_good, defBody s_law_good, defScope s_law_good, [], []⟩
def dd_law : He.DefD := ⟨("law", none), "law", "law", defArgs s_law, defBody s_law, defScope s_law, [], []⟩
def fnD : List He.DefD := [dd_is_mode, dd_is_change_mode, dd_is_integer, dd_is_from_to, dd_law_tape, dd_law_pick, dd_law_one_of, dd_law_any, dd_law_bent_word, dd_is_name, dd_is_value, dd_is_request, dd_is_operation, dd_law_is_among, dd_law_is_name, dd_law_is_deed, dd_law_nym, dd_law_good, dd_law]
def faD : List He.Fa := [.free "len", .free "range", .free "int", .free "isinstance", .free "repr", .free "list", .free "tuple", .free "dict", .free "set", .free "str", .free "bool", .free "max", .free "min", .free "sorted", .free "enumerate", .free "zip", .free "abs", .free "all", .free "any", .free "super", .free "ValueError", .free "TypeError", .glo "is_mode", .glo "is_change_mode", .glo "is_integer", .glo "is_from_to", .glo "_law_tape", .glo "_law_pick", .glo "_law_one_of", .glo "_law_any", .glo "_law_bent_word", .glo "is_name", .glo "is_value", .glo "is_request", .glo "is_operation", .glo "_law_is_among", .glo "_law_is_name", .glo "_law_is_deed", .glo "_law_nym", .glo "_law_good", .glo "law", .glo "WORDS", .int "MOST_LETTERS" (6), .str "LETTERS" "abcdefghijklmnopqrstuvwxyz", .int "TOO_GREAT" (1000000000000000000000000000000), .glo "ALONE", .int "MOST_NUMBER" (1000000), .glo "NUMBERED", .int "MOST_OPERATIONS" (60)]
def exD (K : PySem.W.Frag) : Bool := He.tupB K "WORDS" [.str "hold", .str "keep", .str "change", .str "replace"] && (He.tupB K "ALONE" [.str "begin", .str "crash", .str "clean"] && (He.tupB K "NUMBERED" [.str "save", .str "release", .str "back", .str "commit", .str "abort", .str "prepare"]))
def loose0 : List PySem.Str := ["WORDS", "is_mode", "is_change_mode", "LETTERS", "MOST_LETTERS", "TOO_GREAT", "is_integer", "is_from_to", "is_name", "is_value", "MOST_OPERATIONS", "MOST_NUMBER", "ALONE", "NUMBERED", "is_request", "is_operation", "_law_tape", "_law_pick", "_law_one_of", "_law_any", "_law_is_name", "_law_is_among", "_law_is_deed", "_law_bent_word", "_law_nym", "_law_good"]
def looseD : List PySem.Str := loose0
abbrev rowD : PySem.W.OpenRow := PySem.W.OpenLaw.row PySem.Challenge.rw_rowmarks_k51_what_is_an_operation
theorem runD (w : World) : HandSHeadRun.RunEq rowD (PySem.W.view rowD.prog [30]) (hookR 4 faD fnD exD) (fun s => obsR 4 faD fnD exD (HandSHeadRun.getT s)) 2000 looseD w := by
  intro os
  kernel_rfl
section
variable {P : Program} {w : World} {K : PySem.W.Frag} {mg : Str → Option Value} {base : Heap}
theorem lawD (B : Bt mg) (C_WORDS : Cst K mg "WORDS" [(V.str "hold"), (V.str "keep"), (V.str "change"), (V.str "replace")]) (C_MOST_LETTERS : ∃ t, mg "MOST_LETTERS" = some (.int (6) t)) (C_LETTERS : ∃ t, mg "LETTERS" = some (.str "abcdefghijklmnopqrstuvwxyz" t)) (C_TOO_GREAT : ∃ t, mg "TOO_GREAT" = some (.int (1000000000000000000000000000000) t)) (C_ALONE : Cst K mg "ALONE" [(V.str "begin"), (V.str "crash"), (V.str "clean")]) (C_MOST_NUMBER : ∃ t, mg "MOST_NUMBER" = some (.int (1000000) t)) (C_NUMBERED : Cst K mg "NUMBERED" [(V.str "save"), (V.str "release"), (V.str "back"), (V.str "commit"), (V.str "abort"), (V.str "prepare")]) (C_MOST_OPERATIONS : ∃ t, mg "MOST_OPERATIONS" = some (.int (60) t)) {f_is_mode : Addr} {fd_is_mode : FuncData} (F_is_mode : At K mg "is_mode" "is_mode" s_is_mode ["value"] f_is_mode fd_is_mode) {f_is_change_mode : Addr} {fd_is_change_mode : FuncData} (F_is_change_mode : At K mg "is_change_mode" "is_change_mode" s_is_change_mode ["value"] f_is_change_mode fd_is_change_mode) {f_is_integer : Addr} {fd_is_integer : FuncData} (F_is_integer : At K mg "is_integer" "is_integer" s_is_integer ["value"] f_is_integer fd_is_integer) {f_is_from_to : Addr} {fd_is_from_to : FuncData} (F_is_from_to : At K mg "is_from_to" "is_from_to" s_is_from_to ["value", "least", "most"] f_is_from_to fd_is_from_to) {f_law_tape : Addr} {fd_law_tape : FuncData} (F_law_tape : At K mg "_law_tape" "_law_tape" s_law_tape ["_law_script", "_law_start"] f_law_tape fd_law_tape) {f_law_pick : Addr} {fd_law_pick : FuncData} (F_law_pick : At K mg "_law_pick" "_law_pick" s_law_pick ["_law_tape_here", "_law_many"] f_law_pick fd_law_pick) {f_law_one_of : Addr} {fd_law_one_of : FuncData} (F_law_one_of : At K mg "_law_one_of" "_law_one_of" s_law_one_of ["_law_tape_here", "_law_items"] f_law_one_of fd_law_one_of) {f_law_any : Addr} {fd_law_any : FuncData} (F_law_any : At K mg "_law_any" "_law_any" s_law_any ["_law_tape_here"] f_law_any fd_law_any) {f_law_bent_word : Addr} {fd_law_bent_word : FuncData} (F_law_bent_word : At K mg "_law_bent_word" "_law_bent_word" s_law_bent_word ["_law_tape_here", "_law_word"] f_law_bent_word fd_law_bent_word) {f_is_name : Addr} {fd_is_name : FuncData} (F_is_name : At K mg "is_name" "is_name" s_is_name ["value"] f_is_name fd_is_name) {f_is_value : Addr} {fd_is_value : FuncData} (F_is_value : At K mg "is_value" "is_value" s_is_value ["value"] f_is_value fd_is_value) {f_is_request : Addr} {fd_is_request : FuncData} (F_is_request : At K mg "is_request" "is_request" s_is_request ["value"] f_is_request fd_is_request) {f_is_operation : Addr} {fd_is_operation : FuncData} (F_is_operation : At K mg "is_operation" "is_operation" s_is_operation ["value"] f_is_operation fd_is_operation) {f_law_is_among : Addr} {fd_law_is_among : FuncData} (F_law_is_among : At K mg "_law_is_among" "_law_is_among" s_law_is_among ["_law_item", "_law_low", "_law_high"] f_law_is_among fd_law_is_among) {f_law_is_name : Addr} {fd_law_is_name : FuncData} (F_law_is_name : At K mg "_law_is_name" "_law_is_name" s_law_is_name ["_law_item"] f_law_is_name fd_law_is_name) {f_law_is_deed : Addr} {fd_law_is_deed : FuncData} (F_law_is_deed : At K mg "_law_is_deed" "_law_is_deed" s_law_is_deed ["_law_item"] f_law_is_deed fd_law_is_deed) {f_law_nym : Addr} {fd_law_nym : FuncData} (F_law_nym : At K mg "_law_nym" "_law_nym" s_law_nym ["_law_tape_here"] f_law_nym fd_law_nym) {f_law_good : Addr} {fd_law_good : FuncData} (F_law_good : At K mg "_law_good" "_law_good" s_law_good ["_law_tape_here"] f_law_good fd_law_good) {f_law : Addr} {fd_law : FuncData} (F_law : At K mg "law" "law" s_law ["_law_script"] f_law fd_law) : FnG P w K mg base (L2.CX P w) 5 f_law fd_law ["_law_script"] (sp_law K) := by
  have D_is_mode : Def P w K mg base "is_mode" ["value"] 1 sp_is_mode := ok_is_mode F_is_mode B C_WORDS
  have D_is_change_mode : Def P w K mg base "is_change_mode" ["value"] 1 sp_is_change_mode := ok_is_change_mode F_is_change_mode B C_WORDS
  have D_is_integer : Def P w K mg base "is_integer" ["value"] 1 sp_is_integer := ok_is_integer F_is_integer B
  have D_is_from_to : Def P w K mg base "is_from_to" ["value", "least", "most"] 2 sp_is_from_to := ok_is_from_to F_is_from_to B D_is_integer
  have D_law_tape : Def P w K mg base "_law_tape" ["_law_script", "_law_start"] 1 (sp_law_tape K) := ok_law_tape F_law_tape B
  have D_law_pick : Def P w K mg base "_law_pick" ["_law_tape_here", "_law_many"] 1 sp_law_pick := ok_law_pick F_law_pick B
  have D_law_one_of : Def P w K mg base "_law_one_of" ["_law_tape_here", "_law_items"] 2 sp_law_one_of := ok_law_one_of F_law_one_of B D_law_pick
  have D_law_any : Def P w K mg base "_law_any" ["_law_tape_here"] 3 sp_law_any := ok_law_any F_law_any B D_law_one_of
  have D_law_bent_word : Def P w K mg base "_law_bent_word" ["_law_tape_here", "_law_word"] 3 sp_law_bent_word := ok_law_bent_word F_law_bent_word B D_law_pick D_law_one_of
  have D_is_name : Def P w K mg base "is_name" ["value"] 1 sp_is_name := ok_is_name F_is_name B C_MOST_LETTERS C_LETTERS
  have D_is_value : Def P w K mg base "is_value" ["value"] 2 sp_is_value := ok_is_value F_is_value B C_TOO_GREAT D_is_integer
  have D_is_request : Def P w K mg base "is_request" ["value"] 3 sp_is_request := ok_is_request F_is_request B D_is_name D_is_mode D_is_change_mode D_is_value
  have D_is_operation : Def P w K mg base "is_operation" ["value"] 4 sp_is_operation := ok_is_operation F_is_operation B C_ALONE C_MOST_NUMBER C_NUMBERED C_MOST_OPERATIONS D_is_from_to D_is_request
  have D_law_is_among : Def P w K mg base "_law_is_among" ["_law_item", "_law_low", "_law_high"] 1 sp_law_is_among := ok_law_is_among F_law_is_among B
  have D_law_is_name : Def P w K mg base "_law_is_name" ["_law_item"] 1 sp_law_is_name := ok_law_is_name F_law_is_name B
  have D_law_is_deed : Def P w K mg base "_law_is_deed" ["_law_item"] 2 sp_law_is_deed := ok_law_is_deed F_law_is_deed B D_law_is_among D_law_is_name
  have D_law_nym : Def P w K mg base "_law_nym" ["_law_tape_here"] 3 sp_law_nym := ok_law_nym F_law_nym B D_law_pick D_law_one_of
  have D_law_good : Def P w K mg base "_law_good" ["_law_tape_here"] 4 sp_law_good := ok_law_good F_law_good B D_law_one_of D_law_nym
  have KW_is_operation_0_value : Kw P w K mg base "is_operation" 0 ["value"] 4 sp_is_operation (fun vs zs => zs) := Def.kw D_is_operation F_is_operation (fun vs zs => zs) (fun r1 r2 => r2) (fun _ _ _ _ _ _ us ws h1 h2 => match us, ws, h1, h2 with | [], [y0], _, _ => rfl)
  have D_law : DefG P w K mg base "law" ["_law_script"] 5 (sp_law K) := ok_law F_law B KW_is_operation_0_value D_law_tape D_is_operation D_law_good D_law_pick D_law_any D_law_one_of D_law_bent_word D_law_is_deed
  exact D_law.fn F_law
theorem factsD {h : Heap} {f : Addr} (X : K.In h) (G : h.Ns mainGlobals mg) (hf : mg ("law" : Str) = some (.ref f)) (c : SaysR faD fnD exD K) :
    ∃ fd : FuncData, (∀ (s : Shared) (v : Value), BindsTo s fd ⟨[v], []⟩ [("_law_script", v)]) ∧ ∀ base : Heap, FnG P w K mg base (L2.CX P w) 5 f fd ["_law_script"] (sp_law K) := by
  obtain ⟨c, x⟩ := c
  obtain ⟨fd_is_mode, F_is_mode⟩ := c.def_ 0 (d := dd_is_mode) rfl
  obtain ⟨fd_is_change_mode, F_is_change_mode⟩ := c.def_ 1 (d := dd_is_change_mode) rfl
  obtain ⟨fd_is_integer, F_is_integer⟩ := c.def_ 2 (d := dd_is_integer) rfl
  obtain ⟨fd_is_from_to, F_is_from_to⟩ := c.def_ 3 (d := dd_is_from_to) rfl
  obtain ⟨fd_law_tape, F_law_tape⟩ := c.def_ 4 (d := dd_law_tape) rfl
  obtain ⟨fd_law_pick, F_law_pick⟩ := c.def_ 5 (d := dd_law_pick) rfl
  obtain ⟨fd_law_one_of, F_law_one_of⟩ := c.def_ 6 (d := dd_law_one_of) rfl
  obtain ⟨fd_law_any, F_law_any⟩ := c.def_ 7 (d := dd_law_any) rfl
  obtain ⟨fd_law_bent_word, F_law_bent_word⟩ := c.def_ 8 (d := dd_law_bent_word) rfl
  obtain ⟨fd_is_name, F_is_name⟩ := c.def_ 9 (d := dd_is_name) rfl
  obtain ⟨fd_is_value, F_is_value⟩ := c.def_ 10 (d := dd_is_value) rfl
  obtain ⟨fd_is_request, F_is_request⟩ := c.def_ 11 (d := dd_is_request) rfl
  obtain ⟨fd_is_operation, F_is_operation⟩ := c.def_ 12 (d := dd_is_operation) rfl
  obtain ⟨fd_law_is_among, F_law_is_among⟩ := c.def_ 13 (d := dd_law_is_among) rfl
  obtain ⟨fd_law_is_name, F_law_is_name⟩ := c.def_ 14 (d := dd_law_is_name) rfl
  obtain ⟨fd_law_is_deed, F_law_is_deed⟩ := c.def_ 15 (d := dd_law_is_deed) rfl
  obtain ⟨fd_law_nym, F_law_nym⟩ := c.def_ 16 (d := dd_law_nym) rfl
  obtain ⟨fd_law_good, F_law_good⟩ := c.def_ 17 (d := dd_law_good) rfl
  obtain ⟨fd_law, F_law⟩ := c.def_ 18 (d := dd_law) rfl
  have e := hf.symm.trans (He.glo_ok X G (c.fact 40 (f := .glo "law") rfl))
  injection e with e
  injection e with e
  subst e
  have b := FunD.bindsA (ps := ["_law_script"]) F_law fun _ _ _ _ _ _ us hl => match us, hl with | [_], _ => rfl
  have B : Bt mg := ⟨He.free_ok X G (c.fact 0 (f := .free "len") rfl), He.free_ok X G (c.fact 1 (f := .free "range") rfl), He.free_ok X G (c.fact 2 (f := .free "int") rfl), He.free_ok X G (c.fact 3 (f := .free "isinstance") rfl), He.free_ok X G (c.fact 4 (f := .free "repr") rfl), He.free_ok X G (c.fact 5 (f := .free "list") rfl), He.free_ok X G (c.fact 6 (f := .free "tuple") rfl), He.free_ok X G (c.fact 7 (f := .free "dict") rfl), He.free_ok X G (c.fact 8 (f := .free "set") rfl), He.free_ok X G (c.fact 9 (f := .free "str") rfl), He.free_ok X G (c.fact 10 (f := .free "bool") rfl), He.free_ok X G (c.fact 11 (f := .free "max") rfl), He.free_ok X G (c.fact 12 (f := .free "min") rfl), He.free_ok X G (c.fact 13 (f := .free "sorted") rfl), He.free_ok X G (c.fact 14 (f := .free "enumerate") rfl), He.free_ok X G (c.fact 15 (f := .free "zip") rfl), He.free_ok X G (c.fact 16 (f := .free "abs") rfl), He.free_ok X G (c.fact 17 (f := .free "all") rfl), He.free_ok X G (c.fact 18 (f := .free "any") rfl), He.free_ok X G (c.fact 19 (f := .free "super") rfl), He.free_ok X G (c.fact 20 (f := .free "ValueError") rfl), He.free_ok X G (c.fact 21 (f := .free "TypeError") rfl)⟩
  obtain ⟨x0, x⟩ := Bool.and_eq_true_iff.mp x
  obtain ⟨x1, x⟩ := Bool.and_eq_true_iff.mp x
  have x2 := x
  have C_WORDS := cst_of X G (c.fact 41 (f := .glo "WORDS") rfl) x0
  have C_MOST_LETTERS := He.int_ok X G (c.fact 42 (f := .int "MOST_LETTERS" (6)) rfl)
  have C_LETTERS := He.str_ok X G (c.fact 43 (f := .str "LETTERS" "abcdefghijklmnopqrstuvwxyz") rfl)
  have C_TOO_GREAT := He.int_ok X G (c.fact 44 (f := .int "TOO_GREAT" (1000000000000000000000000000000)) rfl)
  have C_ALONE := cst_of X G (c.fact 45 (f := .glo "ALONE") rfl) x1
  have C_MOST_NUMBER := He.int_ok X G (c.fact 46 (f := .int "MOST_NUMBER" (1000000)) rfl)
  have C_NUMBERED := cst_of X G (c.fact 47 (f := .glo "NUMBERED") rfl) x2
  have C_MOST_OPERATIONS := He.int_ok X G (c.fact 48 (f := .int "MOST_OPERATIONS" (60)) rfl)
  have A_is_mode := at_of (x := "is_mode") (st := s_is_mode) (ps := ["value"]) X G (c.fact 22 (f := .glo "is_mode") rfl) F_is_mode fun _ _ _ _ _ _ us hl => match us, hl with | [_], _ => rfl
  have A_is_change_mode := at_of (x := "is_change_mode") (st := s_is_change_mode) (ps := ["value"]) X G (c.fact 23 (f := .glo "is_change_mode") rfl) F_is_change_mode fun _ _ _ _ _ _ us hl => match us, hl with | [_], _ => rfl
  have A_is_integer := at_of (x := "is_integer") (st := s_is_integer) (ps := ["value"]) X G (c.fact 24 (f := .glo "is_integer") rfl) F_is_integer fun _ _ _ _ _ _ us hl => match us, hl with | [_], _ => rfl
  have A_is_from_to := at_of (x := "is_from_to") (st := s_is_from_to) (ps := ["value", "least", "most"]) X G (c.fact 25 (f := .glo "is_from_to") rfl) F_is_from_to fun _ _ _ _ _ _ us hl => match us, hl with | [_, _, _], _ => rfl
  have A_law_tape := at_of (x := "_law_tape") (st := s_law_tape) (ps := ["_law_script", "_law_start"]) X G (c.fact 26 (f := .glo "_law_tape") rfl) F_law_tape fun _ _ _ _ _ _ us hl => match us, hl with | [_, _], _ => rfl
  have A_law_pick := at_of (x := "_law_pick") (st := s_law_pick) (ps := ["_law_tape_here", "_law_many"]) X G (c.fact 27 (f := .glo "_law_pick") rfl) F_law_pick fun _ _ _ _ _ _ us hl => match us, hl with | [_, _], _ => rfl
  have A_law_one_of := at_of (x := "_law_one_of") (st := s_law_one_of) (ps := ["_law_tape_here", "_law_items"]) X G (c.fact 28 (f := .glo "_law_one_of") rfl) F_law_one_of fun _ _ _ _ _ _ us hl => match us, hl with | [_, _], _ => rfl
  have A_law_any := at_of (x := "_law_any") (st := s_law_any) (ps := ["_law_tape_here"]) X G (c.fact 29 (f := .glo "_law_any") rfl) F_law_any fun _ _ _ _ _ _ us hl => match us, hl with | [_], _ => rfl
  have A_law_bent_word := at_of (x := "_law_bent_word") (st := s_law_bent_word) (ps := ["_law_tape_here", "_law_word"]) X G (c.fact 30 (f := .glo "_law_bent_word") rfl) F_law_bent_word fun _ _ _ _ _ _ us hl => match us, hl with | [_, _], _ => rfl
  have A_is_name := at_of (x := "is_name") (st := s_is_name) (ps := ["value"]) X G (c.fact 31 (f := .glo "is_name") rfl) F_is_name fun _ _ _ _ _ _ us hl => match us, hl with | [_], _ => rfl
  have A_is_value := at_of (x := "is_value") (st := s_is_value) (ps := ["value"]) X G (c.fact 32 (f := .glo "is_value") rfl) F_is_value fun _ _ _ _ _ _ us hl => match us, hl with | [_], _ => rfl
  have A_is_request := at_of (x := "is_request") (st := s_is_request) (ps := ["value"]) X G (c.fact 33 (f := .glo "is_request") rfl) F_is_request fun _ _ _ _ _ _ us hl => match us, hl with | [_], _ => rfl
  have A_is_operation := at_of (x := "is_operation") (st := s_is_operation) (ps := ["value"]) X G (c.fact 34 (f := .glo "is_operation") rfl) F_is_operation fun _ _ _ _ _ _ us hl => match us, hl with | [_], _ => rfl
  have A_law_is_among := at_of (x := "_law_is_among") (st := s_law_is_among) (ps := ["_law_item", "_law_low", "_law_high"]) X G (c.fact 35 (f := .glo "_law_is_among") rfl) F_law_is_among fun _ _ _ _ _ _ us hl => match us, hl with | [_, _, _], _ => rfl
  have A_law_is_name := at_of (x := "_law_is_name") (st := s_law_is_name) (ps := ["_law_item"]) X G (c.fact 36 (f := .glo "_law_is_name") rfl) F_law_is_name fun _ _ _ _ _ _ us hl => match us, hl with | [_], _ => rfl
  have A_law_is_deed := at_of (x := "_law_is_deed") (st := s_law_is_deed) (ps := ["_law_item"]) X G (c.fact 37 (f := .glo "_law_is_deed") rfl) F_law_is_deed fun _ _ _ _ _ _ us hl => match us, hl with | [_], _ => rfl
  have A_law_nym := at_of (x := "_law_nym") (st := s_law_nym) (ps := ["_law_tape_here"]) X G (c.fact 38 (f := .glo "_law_nym") rfl) F_law_nym fun _ _ _ _ _ _ us hl => match us, hl with | [_], _ => rfl
  have A_law_good := at_of (x := "_law_good") (st := s_law_good) (ps := ["_law_tape_here"]) X G (c.fact 39 (f := .glo "_law_good") rfl) F_law_good fun _ _ _ _ _ _ us hl => match us, hl with | [_], _ => rfl
  have A_law := at_of (x := "law") (st := s_law) (ps := ["_law_script"]) X G (c.fact 40 (f := .glo "law") rfl) F_law fun _ _ _ _ _ _ us hl => match us, hl with | [_], _ => rfl
  exact ⟨fd_law, fun s v => b s [v] rfl, fun base => lawD B C_WORDS C_MOST_LETTERS C_LETTERS C_TOO_GREAT C_ALONE C_MOST_NUMBER C_NUMBERED C_MOST_OPERATIONS A_is_mode A_is_change_mode A_is_integer A_is_from_to A_law_tape A_law_pick A_law_one_of A_law_any A_law_bent_word A_is_name A_is_value A_is_request A_is_operation A_law_is_among A_law_is_name A_law_is_deed A_law_nym A_law_good A_law⟩
end
end Rm
open PySem PySem.W PySem.Calls PyProof.Rows in
theorem PySem.Challenge.cw_rowmarks_k51_what_is_an_operation_holds : PySem.Challenge.rw_rowmarks_k51_what_is_an_operation.Holds := by
  w_on; o_law
  refine HandSHeadRun.head_any (r := OpenLaw.row PySem.Challenge.rw_rowmarks_k51_what_is_an_operation) (q := view (OpenLaw.row PySem.Challenge.rw_rowmarks_k51_what_is_an_operation).prog [30]) (H := Rm.hookR 4 Rm.faD Rm.fnD Rm.exD) (ob := fun s => Rm.obsR 4 Rm.faD Rm.fnD Rm.exD (HandSHeadRun.getT s)) (M := 2000) (loose := Rm.looseD) (d := HandSHeadRun.topDef (OpenLaw.row PySem.Challenge.rw_rowmarks_k51_what_is_an_operation).prog 30) (kwd := []) Rm.obsR_eq
    (by kernel_rfl) (fun s => by kernel_rfl) Rm.runD (by kernel_rfl) (by kernel_rfl) (by kernel_rfl) (by rfl) (by first | assumption | decide +kernel) (by decide +kernel) ⟨rfl, rfl, rfl, rfl, rfl, by decide +kernel⟩ ?hw ?hc
  case hw => w_witness2
  case hc =>
    refine Rm.walkG (l := PySem.Challenge.rw_rowmarks_k51_what_is_an_operation) (n := 63) (k := 5) (x := "_law_script") rfl (by decide) (by kernel_rfl) ⟨rfl, by decide, by decide⟩ fun w mg fa h Y G hmg => ?_
    obtain ⟨K, KX, c⟩ := Y
    have en : (HandSHeadRun.topDef (OpenLaw.row PySem.Challenge.rw_rowmarks_k51_what_is_an_operation).prog 30).name = ("law" : PySem.Str) := by kernel_rfl
    rw [en] at hmg
    obtain ⟨fd, hb, hF⟩ := Rm.factsD (P := (PySem.Challenge.rw_rowmarks_k51_what_is_an_operation).prog) (w := w) KX G hmg c
    exact ⟨K, fd, _, KX, hb, fun H a ns hl hbits _ hS => ⟨a, ns, rfl, ⟨hS, hl, hbits⟩, fun _ => rfl⟩, fun base _ _ => hF base⟩
