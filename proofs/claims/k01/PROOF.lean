import PyProof.Rows.All
import Wide.All
import OpenK.AllK
import Wide.FinOn
import HandS.ForMost
import HandS.Exc
import HandS.ExcOwn
import HandS.WordsExc
import HandS.IsInst
import HandS.Conv
import HandS.More
import HandS.Style
import HandS.Defaults
import HandS.EndBits
import PyProof.ReprRoads
import HandS.TupAny
import HandS.TupLe
import HandS.Wide
import HandS.Records
import HandS.CallSlots
import HandS.Comp
import HandS.Walk
import HandS.Iter
import HandS.Text
import HandS.Steps
import KE.KStateDown
import HandS.Head0
import HandS.Head1
import HandS.Head2
import HandS.HeadHook1
import HandS.HeadHook2
import KE.KExcSuper
import KE.KSuper
import HandS.Base
import HandS.Call
import HandS.ExcInit
import HandS.ExcField
import HandS.TryMany
import HandS.Nested
import HandS.Property
import HandS.TryOnly
import HandS.ForExc
import HandS.OwnEq
import HandS.Lambda
import HandS.DictEq
import HandS.SetFor
import HandS.HeadNt
import HandS.ClsMeth
import HandS.NoneIn
import KE.KNest
import HandS.Strs
import HandS.SortInts
import PyProof.NeKinds
import PyProof.WalkInts
import PyProof.Rows.MinMaxN
import PyProof.WalksMore
import PyProof.Rows.SortStr
import KE.SortData
import HandS.SortOrd
import HandS.TupSets
import HandS.DictTup
import HandS.SetBool
import PyProof.InstEq
import KE.KOpsOwn
import KE.KMethU
import PySem.Challenge.RW_rowmarks_k01_modes_made
set_option Elab.async false
set_option linter.all false
set_option maxRecDepth 100000
set_option maxHeartbeats 0
/-! Rm, part A: promises of defs that call repr (no repr is under way around them). -/
namespace Rm
open PySem PySem.Spec L2
open PyProof.Rows hiding St
/-- a def's promise where no repr is under way -/
structure FnG (P : Program) (w : World) (K : PySem.W.Frag) (mg : Str → Option Value) (base : Heap) (cx : CXT) (k : Nat) (f : Addr) (fd : FuncData) (ps : List Str) (sp : Sp) : Prop where
  len : ∀ vs H Q E, sp vs H Q E → vs.length = ps.length
  go : ∀ (A : Around), A.guards = some [] → Room k A → ∀ (outer : List Env) (s : Shared) (H : Hp) (args : Args) (us : List Value) (vs : List V) (Q : VK) (E : XK),
    Env0 P w K mg base A outer s H → BindsTo s fd args (ps.zip us) → Vals vs us → sp vs H Q E → codeAny (model P w) A (.call (.ref f) args) (CR cx outer P w H s Q E) s
theorem FnG.of {P : Program} {w : World} {K : PySem.W.Frag} {mg : Str → Option Value} {base : Heap} {cx : CXT} {k : Nat} {f : Addr} {fd : FuncData} {ps : List Str} {sp : Sp}
    (F : FnOk P w K mg base cx k f fd ps sp) : FnG P w K mg base cx k f fd ps sp := ⟨F.len, fun A _ hr outer s H args us vs Q E e0 hb hv hs => F.run A outer s H args us vs Q E hr e0 hb hv hs⟩
section
variable {P : Program} {w : World} {K : PySem.W.Frag} {mg : Str → Option Value} {base : Heap}
/-- the rule for a def's body, its code object known -/
theorem okGc {cx : CXT} {x qual : Str} {params : Arguments} {body : List Stmt} {scope : Scope} {dvs : List V} {kws : List (Str × V)} {f : Addr} {fd : FuncData} {N ps : List Str} {k : Nat} {sp : Sp}
    (F : FunD K x qual params body scope dvs kws f fd) (S : FnScope N ps scope) (len : ∀ vs H Q E, sp vs H Q E → vs.length = ps.length)
    (hb : ∀ (cdv : Value), cdv = fd.code → ∀ (A : Around) (outer : List Env) (s : Shared) (H : Hp) (vs : List V) (Q : VK) (E : XK), A.guards = some [] → Room k (A.deeper (envOfC qual scope s.heap.objs.size f cdv)) → sp vs H Q E →
      ∃ t, PSs (cxOf cx P w K mg base N qual scope f cdv A outer s H E) body t ∧ t { nx := fun _ H' => Q .non H', rt := Q } (start N vs) H) : FnG P w K mg base cx (k + 1) f fd ps sp := by
  obtain ⟨oc, od, dV, kV, doc, pm, an, cdv, ct, osl, rfl, lk, hcd, _, _⟩ := F.ex
  refine ⟨len, fun A hG hr outer s H args us vs Q E e0 hbd r hsp => ?_⟩
  have ll : vs.length = ps.length := len _ _ _ _ hsp
  have kx : K.In s.heap := e0.mod.kin.keeps fun b o e => (e0.bs b o e).1
  have hlim : s.heap.NoLimit := e0.mod.nolimit.keeps fun b o e => (e0.bs b o e).1
  refine codeAny_call_function hr.depth (kx _ _ lk) rfl S.co S.gen rfl (PySem.W.codeRec_of kx hcd) (hbd _ _ _ _ ?_)
  refine wpAny_newFunctionEnv_cells S.kind (fun y hy => ?_) fun env he s1 x => ?_
  · obtain ⟨n, v⟩ := y
    rcases S.par n (List.of_mem_zip hy).1 with q | q
    · exact Or.inl q
    · exact Or.inr ⟨q, PySem.W.cellsFrom_some _ _ _ (Or.inl q)⟩
  subst he
  refine ⟨hlim.keeps x.toInCall.keep, codeAny_func ?_⟩
  obtain ⟨t, ht, hq⟩ := hb cdv rfl A outer s H vs Q E hG (hr.deeper _) hsp
  refine wpAny_mono (ht.run [] s1 (start N vs) H _ (inv_start S hr.hd e0 ll r x) hq) (fun fl s' hs => ?_) fun e s' hs => hs
  cases fl with
  | ret u =>
    obtain ⟨v, σ', H', J, rv, q⟩ := hs
    exact ⟨v, H', J.os, J.bare, J.base, J.hok, rv, q⟩
  | next =>
    obtain ⟨σ', H', J, q⟩ := hs
    exact ⟨V.non, H', J.os, J.bare, J.base, J.hok, rfl, q⟩
  | brk =>
    obtain ⟨_, _, _, q⟩ := hs
    cases q
  | cont =>
    obtain ⟨_, _, _, q⟩ := hs
    cases q
/-- the rule for a def's body -/
theorem okG {cx : CXT} {x qual : Str} {params : Arguments} {body : List Stmt} {scope : Scope} {dvs : List V} {kws : List (Str × V)} {f : Addr} {fd : FuncData} {N ps : List Str} {k : Nat} {sp : Sp}
    (F : FunD K x qual params body scope dvs kws f fd) (S : FnScope N ps scope) (len : ∀ vs H Q E, sp vs H Q E → vs.length = ps.length)
    (hb : ∀ (cdv : Value) (A : Around) (outer : List Env) (s : Shared) (H : Hp) (vs : List V) (Q : VK) (E : XK), A.guards = some [] → Room k (A.deeper (envOfC qual scope s.heap.objs.size f cdv)) → sp vs H Q E →
      ∃ t, PSs (cxOf cx P w K mg base N qual scope f cdv A outer s H E) body t ∧ t { nx := fun _ H' => Q .non H', rt := Q } (start N vs) H) : FnG P w K mg base cx (k + 1) f fd ps sp := okGc F S len fun cdv _ => hb cdv
end
end Rm
/-! Rm, part B: data as a whole (dicts too), repr of data. -/
namespace Rm
open PySem PySem.Spec L2
open PyProof.Rows hiding St
def keyD : Key → PyData
  | .inl i => .int i
  | .inr x => .str x
/-- what is read at a (a locked thing as what it is) -/
def rdo (H : Hp) (a : Addr) : Option HO := match H a with
  | some (.frz _ u) => some u
  | r => r
theorem rdo_of {H : Hp} {a : Addr} {u : HO} (h : H a = some u) (hn : ∀ o v, u ≠ .frz o v) : rdo H a = some u := by
  unfold rdo
  rw [h]
  cases u <;> first | rfl | exact absurd rfl (hn _ _)
theorem rdo_rd {H : Hp} {a : Addr} {u : HO} (h : rdo H a = some u) : Rd H a u := by
  unfold rdo at h
  split at h
  · rename_i o v e
    cases h
    exact Or.inr ⟨o, e⟩
  · exact Or.inl h
theorem rdo_some {H : Hp} {a : Addr} {u : HO} (h : rdo H a = some u) : ∃ o, H a = some o := by
  rcases rdo_rd h with e | ⟨o, e⟩
  · exact ⟨_, e⟩
  · exact ⟨_, e⟩
theorem rdo_l {K : PySem.W.Frag} {H : Hp} {a : Addr} {xs : List V} (h : rdo H a = some (.lst xs)) : SqL K H a xs := Or.inl (rdo_rd h)
theorem rdo_t {K : PySem.W.Frag} {H : Hp} {a : Addr} {xs : List V} (h : rdo H a = some (.tup xs)) : SqT K H a xs := Or.inl (rdo_rd h)
mutual
/-- v stands for the data d in H -/
inductive Dr (H : Hp) : V → PyData → Prop
  | non : Dr H .non .none
  | bl (b : Bool) : Dr H (.bl b) (.bool b)
  | int (i : Int) : Dr H (.int i) (.int i)
  | str (x : Str) : Dr H (.str x) (.str x)
  | lst {a : Addr} {xs : List V} {ds : List PyData} : rdo H a = some (.lst xs) → DrA H xs ds → Dr H (.ref a) (.list ds)
  | tup {a : Addr} {xs : List V} {ds : List PyData} : rdo H a = some (.tup xs) → DrA H xs ds → Dr H (.ref a) (.tuple ds)
  | dct {a : Addr} {kvs : List (Key × V)} {ds : List (PyData × PyData)} : rdo H a = some (.dK kvs) → DrK H kvs ds → Dr H (.ref a) (.dict ds)
inductive DrA (H : Hp) : List V → List PyData → Prop
  | nil : DrA H [] []
  | cons {v : V} {vs : List V} {d : PyData} {ds : List PyData} : Dr H v d → DrA H vs ds → DrA H (v :: vs) (d :: ds)
inductive DrK (H : Hp) : List (Key × V) → List (PyData × PyData) → Prop
  | nil : DrK H [] []
  | cons {k : Key} {v : V} {kvs : List (Key × V)} {d : PyData} {ds : List (PyData × PyData)} : Dr H v d → DrK H kvs ds → DrK H ((k, v) :: kvs) ((keyD k, d) :: ds)
end
/-- what is read stays -/
def Ext (H H' : Hp) : Prop := ∀ a o, H a = some o → H' a = some o
theorem Ext.refl (H : Hp) : Ext H H := fun _ _ h => h
theorem Ext.trans {H H1 H2 : Hp} (a : Ext H H1) (b : Ext H1 H2) : Ext H H2 := fun x o h => b x o (a x o h)
theorem Ext.new {H : Hp} {p : Addr} {o : HO} (h : H p = none) : Ext H (upd H p o) := fun a u e => (upd_ne (ne_of_none e h)).trans e
theorem Ext.o {H H' : Hp} {a : Addr} {u : HO} (e : Ext H H') (h : rdo H a = some u) : rdo H' a = some u := by
  obtain ⟨o, q⟩ := rdo_some h
  unfold rdo at h ⊢
  rw [e a o q]
  rw [q] at h
  exact h
theorem Ext.rd {H H' : Hp} {a : Addr} {u : HO} (e : Ext H H') (h : Rd H a u) : Rd H' a u := h.imp (e _ _) fun ⟨o, z⟩ => ⟨o, e _ _ z⟩
theorem Ext.t {K : PySem.W.Frag} {H H' : Hp} {a : Addr} {xs : List V} (e : Ext H H') (h : SqT K H a xs) : SqT K H' a xs := h.imp e.rd id
section
variable {H H' : Hp}
mutual
theorem Dr.ext (e : Ext H H') : ∀ {v : V} {d : PyData}, Dr H v d → Dr H' v d
  | _, _, .non => .non
  | _, _, .bl b => .bl b
  | _, _, .int i => .int i
  | _, _, .str x => .str x
  | _, _, .lst h a =>   .lst (e.o h) (DrA.ext e a)
  | _, _, .tup h a => .tup (e.o h) (DrA.ext e a)
  | _, _, .dct h a => .dct (e.o h) (DrK.ext e a)
theorem DrA.ext (e : Ext H H') : ∀ {vs : List V} {ds : List PyData}, DrA H vs ds → DrA H' vs ds
  | _, _, .nil => .nil
  | _, _, .cons h a => .cons (Dr.ext e h) (DrA.ext e a)
theorem DrK.ext (e : Ext H H') : ∀ {kvs : List (Key × V)} {ds : List (PyData × PyData)}, DrK H kvs ds → DrK H' kvs ds
  | _, _, .nil => .nil
  | _, _, .cons h a => .cons (Dr.ext e h) (DrK.ext e a)
end
theorem DrA.length {vs : List V} {ds : List PyData} (h : DrA H vs ds) : vs.length = ds.length := by
  induction vs generalizing ds with
  | nil => cases h; rfl
  | cons v vs ih =>
    cases h with
    | cons _ a => simp [ih a]
theorem DrA.get {vs : List V} {ds : List PyData} (h : DrA H vs ds) {i : Nat} {d : PyData} (e : ds[i]? = some d) : ∃ v, vs[i]? = some v ∧ Dr H v d := by
  induction vs generalizing ds i with
  | nil => cases h; simp at e
  | cons v vs ih =>
    cases h with
    | cons h a =>
      cases i with
      | zero => simp at e; subst e; exact ⟨v, rfl, h⟩
      | succ i => simp at e; simpa using ih a e
end
section
variable {X : Cx} {pins : List (Addr × Obj)} {σ : St} {H : Hp} {s : Shared}
theorem keyD_reads {k : Key} {u : Value} (h : keyIs k u = true) : Reads s.heap u (keyD k) [] := by
  rcases keyIs_shape h with ⟨i, t, rfl, rfl⟩ | ⟨x, t, rfl, rfl⟩
  · exact Reads.int i t
  · exact Reads.str x t
theorem keyD_repr {k : Key} {u : Value} {h0 : Heap} (h : keyIs k u = true) (hs : (keyD k).showable = true) (hz : (keyD k).shown.length ≤ sizeLine) (n : Nat) : ReprK X.prog X.w [] h0 n u (keyD k).shown := by
  rcases keyIs_shape h with ⟨i, t, rfl, rfl⟩ | ⟨x, t, rfl, rfl⟩
  · simp only [keyD, PyData.shown] at hz ⊢
    exact ReprK.of_is (ReprIs.int t (by simpa [keyD, PyData.showable] using hs)) _ _ _
  · simp only [keyD, PyData.shown] at hz ⊢
    exact ReprK.of_is (ReprIs.str x t hz) _ _ _
/-- what repr wants of a value: it is read, and its text is known -/
def Shows (P : Program) (w : World) (h : Heap) (u : Value) (d : PyData) : Prop :=
  (∃ as, Reads h u d as) ∧ ∃ bs, ReadAtMost h d.depth bs ∧ ReprK P w bs h d.depth u d.shown
def ShowsA (P : Program) (w : World) (h : Heap) (us : List Value) (ds : List PyData) : Prop :=
  (∃ as, ReadsAll h us ds as) ∧ ∃ bs, ReadAtMost h (PyData.depthAll ds) bs ∧ ReprAllK P w bs h (PyData.depthAll ds) us (PyData.shownAll ds)
theorem ShowsA.cons {P : Program} {w : World} {h : Heap} {u : Value} {us : List Value} {d : PyData} {ds : List PyData} (a : Shows P w h u d) (b : ShowsA P w h us ds) : ShowsA P w h (u :: us) (d :: ds) := by
  obtain ⟨⟨a1, ra⟩, b1, c1, k1⟩ := a
  obtain ⟨⟨a2, rb⟩, b2, c2, k2⟩ := b
  refine ⟨⟨_, ReadsAll.cons ra rb⟩, b1 ++ b2, ?_, ?_⟩
  · simp only [PyData.depthAll]
    exact (c1.mono (Nat.le_max_left _ _)).append (c2.mono (Nat.le_max_right _ _))
  · simp only [PyData.depthAll, PyData.shownAll]
    exact ReprAllK.cons ((k1.more fun b hb => List.mem_append_left _ hb).level_le (Nat.le_max_left _ _)) (k2.more_le (fun b hb => List.mem_append_right _ hb) (Nat.le_max_right _ _))
theorem shows_nil {P : Program} {w : World} {h : Heap} : ShowsA P w h [] [] := ⟨⟨_, .nil⟩, [], (fun _ z => nomatch z), by simp only [PyData.shownAll]; exact .nil⟩
theorem shows_leaf {P : Program} {w : World} {h : Heap} {u : Value} {d : PyData} (r : Reads h u d []) (k : ReprIs P w u d.shown) : Shows P w h u d := ⟨⟨_, r⟩, [], (fun _ z => nomatch z), ReprK.of_is k _ _ _⟩
/-- a list, a tuple, a dict by its parts -/
theorem shows_list {P : Program} {w : World} {h : Heap} {a : Addr} {o : Obj} {us : List Value} {n : Nat} {ds : List PyData} (h1 : h.get? a = some o) (h2 : o.cls = .type "list") (h3 : o.data = .seq us.toArray n) (A : ShowsA P w h us ds) : Shows P w h (.ref a) (.list ds) := by
  obtain ⟨⟨as, r⟩, bs, c, k⟩ := A
  have R : Reads h (.ref a) (.list ds) (a :: as) := Reads.list h1 h2 h3 r
  have na : a ∉ bs := not_mem_of_deeper R (by simp only [PyData.depth]; omega) c
  refine ⟨⟨_, R⟩, a :: bs, ReadAtMost.cons R (by simp only [PyData.depth]; omega) c, ?_⟩
  simp only [PyData.depth, PyData.shown]
  cases us with
  | nil =>
    cases r
    simp only [PyData.shownAll, listText_nil]
    exact ReprK.listEmpty h1 h2 h3
  | cons x l => exact ReprK.list h1 h2 h3 na (by simpa using k.length_eq) (fun i y e => k.item i y (by simpa using e))
theorem shows_tuple {P : Program} {w : World} {h : Heap} {a : Addr} {o : Obj} {us : List Value} {n : Nat} {ds : List PyData} (h1 : h.get? a = some o) (h2 : o.cls = .type "tuple") (h3 : o.data = .seq us.toArray n) (A : ShowsA P w h us ds) : Shows P w h (.ref a) (.tuple ds) := by
  obtain ⟨⟨as, r⟩, bs, c, k⟩ := A
  have R : Reads h (.ref a) (.tuple ds) as := Reads.tuple h1 h2 h3 r
  have na : a ∉ bs := not_mem_of_deeper R (by simp only [PyData.depth]; omega) c
  refine ⟨⟨_, R⟩, a :: bs, ReadAtMost.cons R (by simp only [PyData.depth]; omega) c, ?_⟩
  simp only [PyData.depth, PyData.shown]
  exact ReprK.tuple h1 h2 h3 na k
theorem shows_dict {P : Program} {w : World} {h : Heap} {a : Addr} {o : Obj} {es : Array DictEntry} {n : Nat} {ds : List (PyData × PyData)} (h1 : h.get? a = some o) (h2 : o.cls = .type "dict") (h3 : o.data = .dict es n) (hsys : (a == sysModules) = false)
    (A : ShowsA P w h (es.toList.map (·.key)) (ds.map (·.1))) (B : ShowsA P w h (es.toList.map (·.val)) (ds.map (·.2))) : Shows P w h (.ref a) (.dict ds) := by
  obtain ⟨⟨as, ra⟩, b1, c1, k1⟩ := A
  obtain ⟨⟨bs, rb⟩, b2, c2, k2⟩ := B
  have R := Reads.dict h1 h2 h3 ra rb
  have c : ReadAtMost h (PyData.depthKv ds) (b1 ++ b2) := (c1.mono (PyData.depthAll_keys_le ds)).append (c2.mono (PyData.depthAll_vals_le ds))
  have na : a ∉ b1 ++ b2 := not_mem_of_deeper R (by simp only [PyData.depth]; omega) c
  refine ⟨⟨_, R⟩, a :: (b1 ++ b2), ReadAtMost.cons R (by simp only [PyData.depth]; omega) c, ?_⟩
  simp only [PyData.depth, PyData.shown, PyData.shownKv_eq]
  exact ReprK.dict h1 h2 h3 hsys na (ReprEntriesK.of_two es.toList _ _
    (k1.more_le (fun b hb => List.mem_append_left _ hb) (PyData.depthAll_keys_le ds)) (k2.more_le (fun b hb => List.mem_append_right _ hb) (PyData.depthAll_vals_le ds)))
mutual
theorem Dr.shows (I : Inv X pins σ H s) : ∀ (d : PyData) (v : V) (u : Value), Dr H v d → RelV v u → d.showable = true → d.shown.length ≤ sizeLine → Shows X.prog X.w s.heap u d
  | .none, _, _, h, r, _, _ => by
    cases h; cases r
    exact shows_leaf .none (by simp only [PyData.shown]; exact ReprIs.none)
  | .bool b, _, _, h, r, _, _ => by
    cases h; cases r
    exact shows_leaf (.bool b) (by simp only [PyData.shown]; exact ReprIs.bool b)
  | .int i, _, _, h, r, hs, _ => by
    cases h
    obtain ⟨t, rfl⟩ := r
    exact shows_leaf (.int i t) (by simp only [PyData.shown]; exact ReprIs.int t (by simpa [PyData.showable] using hs))
  | .str x, _, _, h, r, _, hz => by
    cases h
    obtain ⟨t, rfl⟩ := r
    exact shows_leaf (.str x t) (by simp only [PyData.shown] at hz ⊢; exact ReprIs.str x t hz)
  | .list ds, _, _, h, r, hs, hz => by
    cases h with
    | lst hq ha =>
      cases r
      obtain ⟨its, rv, ⟨o, n, ho, hc, _, hd⟩, _⟩ := I.list (rdo_l hq)
      exact shows_list ho hc hd (DrA.shows I ds _ its ha rv (by simpa [PyData.showable] using hs) fun t ht => Nat.le_trans (listText_mem_le ht) (by simpa only [PyData.shown] using hz))
  | .tuple ds, _, _, h, r, hs, hz => by
    cases h with
    | tup hq ha =>
      cases r
      obtain ⟨its, rv, ⟨o, ho, hc, n, hd⟩, _⟩ := I.tuple (rdo_t hq)
      exact shows_tuple ho hc hd (DrA.shows I ds _ its ha rv (by simpa [PyData.showable] using hs) fun t ht => Nat.le_trans (tupleText_mem_le ht) (by simpa only [PyData.shown] using hz))
  | .dict ds, _, _, h, r, hs, hz => by
    cases h with
    | dct hq ha =>
      cases r
      obtain ⟨_, hsys, vs, rel, o, es, ep, ho, hx, hd, _, pr, _⟩ := dk_rd I.hok (rdo_rd hq)
      obtain ⟨s1, s2⟩ := PyData.showableKv_split ds (by simpa [PyData.showable] using hs)
      have hz' : (dictText (PyData.shownKv ds)).length ≤ sizeLine := by simpa only [PyData.shown] using hz
      obtain ⟨A, B⟩ := DrK.shows I ds _ vs es.toList ha rel pr s1 s2 (fun t ht => let ⟨p, hp, hl⟩ := PyData.shownKv_key_le ds t ht; Nat.le_trans hl (Nat.le_trans (dictText_mem_le hp) hz'))
        (fun t ht => let ⟨p, hp, hl⟩ := PyData.shownKv_val_le ds t ht; Nat.le_trans hl (Nat.le_trans (dictText_mem_le hp) hz'))
      exact shows_dict ho hx.1 hd hsys A B
theorem DrA.shows (I : Inv X pins σ H s) : ∀ (ds : List PyData) (vs : List V) (us : List Value), DrA H vs ds → Vals vs us → PyData.showableAll ds = true → (∀ t ∈ PyData.shownAll ds, t.length ≤ sizeLine) → ShowsA X.prog X.w s.heap us ds
  | [], _, _, h, r, _, _ => by
    cases h; cases r
    exact shows_nil
  | d :: ds, _, _, h, r, hs, hz => by
    have hs' : d.showable = true ∧ PyData.showableAll ds = true := by simpa [PyData.showableAll] using hs
    cases h with
    | cons h1 h2 =>
      cases r with
      | cons r1 r2 =>
        exact ShowsA.cons (Dr.shows I d _ _ h1 r1 hs'.1 (hz _ (by simp only [PyData.shownAll]; exact List.mem_cons_self ..))) (DrA.shows I ds _ _ h2 r2 hs'.2 fun t ht => hz t (by simp only [PyData.shownAll]; exact List.mem_cons_of_mem _ ht))
theorem DrK.shows (I : Inv X pins σ H s) : ∀ (ds : List (PyData × PyData)) (kvs : List (Key × V)) (vs : List (Key × Value)) (es : List DictEntry), DrK H kvs ds → KV kvs vs → Pairs (mixKind X.prog X.w) es vs →
    PyData.showableAll (ds.map (·.1)) = true → PyData.showableAll (ds.map (·.2)) = true → (∀ t ∈ PyData.shownAll (ds.map (·.1)), t.length ≤ sizeLine) → (∀ t ∈ PyData.shownAll (ds.map (·.2)), t.length ≤ sizeLine) →
    ShowsA X.prog X.w s.heap (es.map (·.key)) (ds.map (·.1)) ∧ ShowsA X.prog X.w s.heap (es.map (·.val)) (ds.map (·.2))
  | [], _, _, _, h, r, p, _, _, _, _ => by
    cases h; cases r; cases p
    exact ⟨shows_nil, shows_nil⟩
  | (dk, d) :: ds, _, _, _, h, r, p, hs1, hs2, hz1, hz2 => by
    cases h with
    | @cons k _ _ _ _ h1 h2 =>
      cases r with
      | cons r1 r2 =>
        cases p with
        | cons p1 p2 p3 =>
          obtain ⟨ek, rv⟩ := r1
          have t1 : (keyD k).showable = true ∧ PyData.showableAll (ds.map (·.1)) = true := by simpa [PyData.showableAll] using hs1
          have t2 : d.showable = true ∧ PyData.showableAll (ds.map (·.2)) = true := by simpa [PyData.showableAll] using hs2
          obtain ⟨A, B⟩ := DrK.shows I ds _ _ _ h2 r2 p3 t1.2 t2.2 (fun t ht => hz1 t (by simp only [List.map_cons, PyData.shownAll]; exact List.mem_cons_of_mem _ ht)) (fun t ht => hz2 t (by simp only [List.map_cons, PyData.shownAll]; exact List.mem_cons_of_mem _ ht))
          refine ⟨ShowsA.cons ?_ A, ShowsA.cons ?_ B⟩
          · have q := p1
            rw [← ek] at q
            exact ⟨⟨_, keyD_reads q⟩, [], (fun _ z => nomatch z), keyD_repr q t1.1 (hz1 _ (by simp only [List.map_cons, PyData.shownAll]; exact List.mem_cons_self ..)) _⟩
          · dsimp only
            rw [p2]
            exact Dr.shows I d _ _ h1 rv t2.1 (hz2 _ (by simp only [List.map_cons, PyData.shownAll]; exact List.mem_cons_self ..))
end
def rRepr : List V → Hp → VK → Prop := fun xs H Q => ∃ v d, xs = [v] ∧ Dr H v d ∧ d.showable = true ∧ d.shown.length ≤ sizeLine ∧ d.depth ≤ 60 ∧ Q (.str d.shown) H
end
section
variable {X : Cx}
theorem call_repr_n {B : Around} {pins : List (Addr × Obj)} {σ : St} {H : Hp} {s : Shared} {Q : VK} {u : Value} {d : PyData} {T idr : String} {E : Value → Shared → Prop} (I : Inv X pins σ H s) (hu : B.units + 1 < cLine) (hT : s.TypeIs u T) (sl : SlotG T "__repr__" idr)
    (q : Q (.str d.shown) H) (hc : ∀ R : Value → Shared → Prop, (∀ h' t tk, (∀ b o, s.heap.get? b = some o → h'.get? b = some o) → R (.str d.shown t) { s with heap := h', toks := tk }) → wpAny (model X.prog X.w) B.in1 (call (.builtin idr) [u]) R E s) :
    wpAny (model X.prog X.w) B (call (.builtin "repr") [u]) (EP X pins σ Q) E s :=
  call_repr_slot hu hT sl (hc _ fun h' t tk hk => ⟨_, _, rfl, .str d.shown, H, I.un (Un.kept hk) (I.hok.kept hk), ⟨_, rfl⟩, q⟩)
/-- repr of data -/
theorem call_repr (hG : X.A.guards = some []) (hu : X.A.units + 100 < cLine) : CallR X (.builtin "repr") rRepr := by
  intro pins s σ H xs us Q I r h
  obtain ⟨v, d, rfl, hd, hs, hz, hdep, q⟩ := h
  obtain ⟨u, rfl, ru⟩ := vals1 r
  cases hd with
  | non =>
    cases ru
    exact P.repr_of_none (by simp only [PyData.shown] at q; exact ⟨.str _, H, I.tok _, ⟨_, rfl⟩, q⟩)
  | bl b =>
    cases ru
    exact P.repr_of_bool (by simp only [PyData.shown] at q; exact ⟨.str _, H, I.tok _, ⟨_, rfl⟩, q⟩)
  | int i =>
    obtain ⟨t, rfl⟩ := ru
    exact P.repr_of_int (by simpa [PyData.showable] using hs) (by simp only [PyData.shown] at q; exact ⟨.str _, H, I.tok _, ⟨_, rfl⟩, q⟩)
  | str x =>
    obtain ⟨t, rfl⟩ := ru
    exact P.repr_of_str (by simp only [PyData.shown] at q; exact ⟨.str _, H, I.tok _, ⟨_, rfl⟩, q⟩) (by simpa only [PyData.shown] using hz)
  | @lst a zs ds hq ha =>
    cases ru
    obtain ⟨its, rv, ⟨o, n, ho, hc, _, hd⟩, _⟩ := I.list (rdo_l hq)
    have hz' : (listText (PyData.shownAll ds)).length ≤ sizeLine := by simpa only [PyData.shown] using hz
    simp only [PyData.depth] at hdep
    obtain ⟨⟨as, rr⟩, bs, c, k⟩ := DrA.shows I ds _ its ha rv (by simpa [PyData.showable] using hs) fun t ht => Nat.le_trans (listText_mem_le ht) hz'
    have na : a ∉ bs := not_mem_of_deeper (Reads.list ho hc hd rr) (by simp only [PyData.depth]; omega) c
    refine call_repr_n I (by omega) ⟨o, ho, hc⟩ F.slot_list_repr.toG q fun R hR => ?_
    simp only [PyData.shown] at hR
    cases its with
    | nil =>
      cases rr
      simp only [PyData.shownAll, listText_nil] at hR
      exact call_list_repr_empty ⟨o, ho, hc⟩ ho hd (hR s.heap _ _ fun _ _ e => e)
    | cons y l => exact call_list_reprK ho hc hd na (by simpa using k.length_eq) (fun i y e => k.item i y (by simpa using e)) (show X.A.in1.guards = some [] from hG) (fun b _ => Clear.nil b) (by show X.A.units + 1 + _ < _; omega) (fun _ _ e => e) hR hz'
  | @tup a zs ds hq ha =>
    cases ru
    obtain ⟨its, rv, ⟨o, ho, hc, n, hd⟩, _⟩ := I.tuple (rdo_t hq)
    have hz' : (tupleText (PyData.shownAll ds)).length ≤ sizeLine := by simpa only [PyData.shown] using hz
    simp only [PyData.depth] at hdep
    obtain ⟨⟨as, rr⟩, bs, c, k⟩ := DrA.shows I ds _ its ha rv (by simpa [PyData.showable] using hs) fun t ht => Nat.le_trans (tupleText_mem_le ht) hz'
    have na : a ∉ bs := not_mem_of_deeper (Reads.tuple ho hc hd rr) (by simp only [PyData.depth]; omega) c
    refine call_repr_n I (by omega) ⟨o, ho, hc⟩ F.slot_tuple_repr q fun R hR => ?_
    simp only [PyData.shown] at hR
    exact call_tuple_reprK ho hc hd na k (show X.A.in1.guards = some [] from hG) (fun b _ => Clear.nil b) (by show X.A.units + 1 + _ < _; omega) (fun _ _ e => e) hR hz'
  | @dct a kvs ds hq ha =>
    cases ru
    obtain ⟨_, hsys, vs, rel, o, es, ep, ho, hx, hd, _, pr, _⟩ := dk_rd I.hok (rdo_rd hq)
    obtain ⟨s1, s2⟩ := PyData.showableKv_split ds (by simpa [PyData.showable] using hs)
    have hz' : (dictText (PyData.shownKv ds)).length ≤ sizeLine := by simpa only [PyData.shown] using hz
    simp only [PyData.depth] at hdep
    obtain ⟨⟨⟨as, ra⟩, b1, c1, k1⟩, ⟨bs, rb⟩, b2, c2, k2⟩ := DrK.shows I ds _ vs es.toList ha rel pr s1 s2 (fun t ht => let ⟨p, hp, hl⟩ := PyData.shownKv_key_le ds t ht; Nat.le_trans hl (Nat.le_trans (dictText_mem_le hp) hz'))
      (fun t ht => let ⟨p, hp, hl⟩ := PyData.shownKv_val_le ds t ht; Nat.le_trans hl (Nat.le_trans (dictText_mem_le hp) hz'))
    have c : ReadAtMost s.heap (PyData.depthKv ds) (b1 ++ b2) := (c1.mono (PyData.depthAll_keys_le ds)).append (c2.mono (PyData.depthAll_vals_le ds))
    have na : a ∉ b1 ++ b2 := not_mem_of_deeper (Reads.dict ho hx.1 hd ra rb) (by simp only [PyData.depth]; omega) c
    refine call_repr_n I (by omega) ⟨o, ho, hx.1⟩ F.slot_dict_repr q fun R hR => ?_
    simp only [PyData.shown, PyData.shownKv_eq] at hR
    exact call_dict_reprK ho hx.1 hd hsys na (ReprEntriesK.of_two es.toList _ _
      (k1.more_le (fun b hb => List.mem_append_left _ hb) (PyData.depthAll_keys_le ds)) (k2.more_le (fun b hb => List.mem_append_right _ hb) (PyData.depthAll_vals_le ds)))
      (show X.A.in1.guards = some [] from hG) (fun b _ => Clear.nil b) (by show X.A.units + 1 + _ < _; omega) (fun _ _ e => e) hR (by rw [← PyData.shownKv_eq]; exact hz')
end
end Rm
/-! Rm, part C: operations by cases over the values (readings that compute). -/
namespace Rm
open PySem PySem.Spec L2
open PyProof.Rows hiding St
def keyOf : V → Option Key
  | .int i => some (.inl i)
  | .str x => some (.inr x)
  | _ => none
theorem keyOf_kV {y : V} {k : Key} (h : keyOf y = some k) : y = kV k := by
  cases y <;> simp [keyOf] at h <;> subst h <;> rfl
section
variable {X : Cx}
/-! ### arithmetic -/
def rAdd : R2 := fun x y H Q => match x, y with
  | .int i, .int j => Q (.int (i + j)) H
  | .int i, .bl k => Q (.int (i + b2i k)) H
  | .str i, .str j => i.length + j.length ≤ sizeLine ∧ Q (.str (i ++ j)) H
  | .ref a, .ref b => (match H a, H b with
    | some (.lst xs), some (.lst ys) => xs.length + ys.length ≤ sizeLine ∧ ∀ p, H p = none → Q (.ref p) (upd H p (.lst (xs ++ ys)))
    | some (.tup xs), some (.tup ys) => xs.length + ys.length ≤ sizeLine ∧ (xs = [] → Q (.ref b) H) ∧ (xs ≠ [] → ys = [] → Q (.ref a) H) ∧ (xs ≠ [] → ys ≠ [] → ∀ p, H p = none → Q (.ref p) (upd H p (.tup (xs ++ ys))))
    | _, _ => False)
  | _, _ => False
theorem opAdd : OpR X (binaryOp .Add) rAdd := by
  intro pins s σ H x y v u Q I rx ry h
  unfold rAdd at h
  split at h
  · exact op_add pins s σ H _ _ v u Q I rx ry ⟨_, _, rfl, rfl, h⟩
  · exact op_add_ib pins s σ H _ _ v u Q I rx ry ⟨_, _, rfl, rfl, h⟩
  · exact op_add_str pins s σ H _ _ v u Q I rx ry ⟨_, _, rfl, rfl, h.1, h.2⟩
  · split at h
    · rename_i e1 e2
      exact op_cat pins s σ H _ _ v u Q I rx ry ⟨_, _, _, _, rfl, rfl, e1, e2, h.1, h.2⟩
    · rename_i e1 e2
      exact op_catA pins s σ H _ _ v u Q I rx ry ⟨_, _, _, _, rfl, rfl, SqT.of e1, SqT.of e2, h.1, h.2.1, h.2.2.1, h.2.2.2⟩
    · exact h.elim
  · exact h.elim
def rSub : R2 := fun x y H Q => match x, y with
  | .int i, .int j => Q (.int (i - j)) H
  | _, _ => False
theorem opSub : OpR X (binaryOp .Sub) rSub := by
  intro pins s σ H x y v u Q I rx ry h
  unfold rSub at h
  split at h
  · exact op_sub pins s σ H _ _ v u Q I rx ry ⟨_, _, rfl, rfl, h⟩
  · exact h.elim
/-- * : the factors together below a million bits are always right -/
def rMul : R2 := fun x y H Q => match x, y with
  | .int i, .int j => IntMulOk i j ∧ Q (.int (i * j)) H
  | .str z, .int k => (k = 0 ∨ k = 1) ∧ Q (.str (if k = 1 then z else Str.empty)) H
  | .ref l, .int k => (match H l with
    | some (.lst xs) => (-(2 ^ 63) ≤ k ∧ k < 2 ^ 63 ∧ xs.length * k.toNat ≤ sizeLine) ∧ ∀ p, H p = none → Q (.ref p) (upd H p (.lst (List.replicate k.toNat xs).flatten))
    | _ => False)
  | _, _ => False
theorem opMul : OpR X (binaryOp .Mult) rMul := by
  intro pins s σ H x y v u Q I rx ry h
  unfold rMul at h
  split at h
  · rename_i i j
    obtain ⟨t, rfl⟩ := rx
    obtain ⟨t', rfl⟩ := ry
    exact mul_int ⟨.int _, H, I.tok _, ⟨_, rfl⟩, h.2⟩ h.1
  · rename_i z k
    obtain ⟨t, rfl⟩ := rx
    obtain ⟨t', rfl⟩ := ry
    rcases h.1 with rfl | rfl
    · exact P.mul_str_none (by decide) (by decide) ⟨.str _, H, I.tok _, ⟨_, rfl⟩, h.2⟩
    · refine P.mul_str (by decide) (fun _ e => by cases e) (fun _ e => by cases e) ?_
      rw [if_neg (by decide), if_pos (by rfl)]
      exact ⟨.str _, H, I, ⟨_, rfl⟩, h.2⟩
  · split at h
    · rename_i e
      exact op_rep pins s σ H _ _ v u Q I rx ry ⟨_, _, _, rfl, rfl, e, h.1.1, h.1.2.1, h.1.2.2, h.2⟩
    · exact h.elim
  · exact h.elim
def rDiv : R2 := fun x y H Q => match x, y with
  | .int i, .int j => (0 < j ∧ j.natAbs < 1073741824) ∧ Q (.int (i / j)) H
  | _, _ => False
theorem opDiv : OpR X (binaryOp .FloorDiv) rDiv := by
  intro pins s σ H x y v u Q I rx ry h
  unfold rDiv at h
  split at h
  · rename_i i j
    refine op_fdivN pins s σ H _ _ v u Q I rx ry ⟨_, _, rfl, rfl, ⟨by omega, h.1.2⟩, ?_⟩
    show Q (.int (i.fdiv j)) H
    rw [Int.fdiv_eq_ediv_of_nonneg i (show 0 ≤ j by omega)]
    exact h.2
  · exact h.elim
def rMod : R2 := fun x y H Q => match x, y with
  | .int i, .int j => 0 < j ∧ Q (.int (i % j)) H
  | _, _ => False
theorem opMod : OpR X (binaryOp .Mod) rMod := by
  intro pins s σ H x y v u Q I rx ry h
  unfold rMod at h
  split at h
  · exact op_mod pins s σ H _ _ v u Q I rx ry ⟨_, _, rfl, rfl, h.1, h.2⟩
  · exact h.elim
def rPow : R2 := fun x y H Q => match x, y with
  | .int i, .int j => (0 ≤ j ∧ (Builtin.Int.intBits i : Int) * j ≤ 2 ^ 27) ∧ Q (.int (i ^ j.toNat)) H
  | _, _ => False
theorem opPow : OpR X (binaryOp .Pow) rPow := by
  intro pins s σ H x y v u Q I rx ry h
  unfold rPow at h
  split at h
  · obtain ⟨t, rfl⟩ := rx
    obtain ⟨t', rfl⟩ := ry
    exact pow_int h.1.1 h.1.2 ⟨.int _, H, I.tok _, ⟨_, rfl⟩, h.2⟩
  · exact h.elim
/-! ### comparisons -/
def rLt : R2 := fun x y H Q => match x, y with
  | .int i, .int j => Q (.bl (decide (i < j))) H
  | _, _ => False
def rGe : R2 := fun x y H Q => match x, y with
  | .int i, .int j => Q (.bl (decide (j ≤ i))) H
  | _, _ => False
theorem opLt : OpR X (compareOp .Lt) rLt := by
  intro pins s σ H x y v u Q I rx ry h
  unfold rLt at h
  split at h
  · exact op_lt pins s σ H _ _ v u Q I rx ry ⟨_, _, rfl, rfl, h⟩
  · exact h.elim
theorem opGe : OpR X (compareOp .GtE) rGe := by
  intro pins s σ H x y v u Q I rx ry h
  unfold rGe at h
  split at h
  · exact op_ge pins s σ H _ _ v u Q I rx ry ⟨_, _, rfl, rfl, h⟩
  · exact h.elim
/-- a list, a tuple or a dict stands at a -/
def isCol (o : Option HO) : Bool := match o with
  | some (.lst _) | some (.tup _) | some (.dK _) => true
  | _ => false
theorem dict_eq_declines_str (l : Addr) (es : Array DictEntry) (n : Nat) (b : Str) (u : Tok) :
    Meets (Builtin.«dict.__eq__» ⟨[.ref l, .str b u], []⟩) (fun _ R s => s.heap.get? l = some { cls := .type "dict", data := .dict es n } ∧ R (.ok (.ret .notImplemented)) s) :=
  .of_wp fun prog w A R s h => by obtain ⟨hp, g, d, tk, os⟩ := s; obtain ⟨hl, h⟩ := h; have f1 := F.sub_str_dict; wp_walk using AutoSeq1.wpAny_loadPart' hl; exact ⟨_, rfl, h⟩
theorem str_eq_declines_dict (b : Str) (u : Tok) (l : Addr) (es : Array DictEntry) (n : Nat) :
    Meets (Builtin.«str.__eq__» ⟨[.str b u, .ref l], []⟩) (fun _ R s => s.heap.get? l = some { cls := .type "dict", data := .dict es n } ∧ R (.ok (.ret .notImplemented)) s) :=
  .of_wp fun prog w A R s h => by obtain ⟨hp, g, d, tk, os⟩ := s; obtain ⟨hl, h⟩ := h; wp_walk using AutoSeq1.wpAny_loadPart' hl, wpAny_load hl; exact ⟨_, rfl, h⟩
theorem rc_dict_str {A : Around} {s : Shared} {l : Addr} {es : Array DictEntry} {n : Nat} (b : Str) (u : Tok) (ho : s.heap.get? l = some { cls := .type "dict", data := .dict es n }) (hu : A.units < cLine) : SeqAt.RcAt A s (.ref l) (.str b u) false := fun prog w E Q h =>
  SeqAt.rc_eq_decline_or (k := false) ⟨_, ho, rfl⟩ (typeIs_str s b u) (by decide) F.sub_str_dict F.slot_dict_eq F.slot_str_eq_refl
    (fun _ hq => call_meets F.slot_dict_eq ⟨_, ho, rfl⟩ F.entry_dict_eq (F.args_dict_eq_2 _ _) (dict_eq_declines_str l es n b u) ⟨ho, hq⟩)
    (fun _ hq => call_meets F.slot_str_eq_refl (typeIs_str s b u) F.entry_str_eq (F.args_str_eq_2 _ _) (str_eq_declines_dict b u l es n) ⟨ho, hq⟩)
    (fun _ hq => wpAny_of_eq (rfl : isSame (.ref l) (.str b u) = pure false) hq) (.inr hu) h
theorem rc_col_str {H : Hp} {pins : List (Addr × Obj)} {σ : St} {s : Shared} {l : Addr} (b : Str) (u : Tok) (I : Inv X pins σ H s) (h : isCol (rdo H l) = true) (hu : X.A.units < cLine) : SeqAt.RcAt X.A s (.ref l) (.str b u) false := by
  unfold isCol at h
  split at h
  · rename_i e
    obtain ⟨its, r, pl, _⟩ := I.list (rdo_l e)
    exact SeqAt.RcAt.list_str b u pl.isList hu
  · rename_i e
    obtain ⟨its, r, pl, _⟩ := I.tuple (rdo_t e)
    exact SeqAt.RcAt.tuple_str b u pl hu
  · rename_i e
    obtain ⟨_, _, vs, _, o, es, ep, ho, hx, hd, _⟩ := dk_rd I.hok (rdo_rd e)
    obtain ⟨oc, od, dt, sl⟩ := o
    obtain ⟨h1, h2, h3⟩ := hx
    simp only at h1 h2 h3 hd
    subst h1 h2 h3 hd
    exact rc_dict_str b u ho hu
  · cases h
mutual
theorem Dr.dp {K : PySem.W.Frag} {H : Hp} : ∀ (d : PyData) (v : V), Dr H v d → d.canLay0 = true → Dp K H v d
  | .none, _, h, _ => by cases h; exact .non
  | .bool b, _, h, _ => by cases h; exact .bl b
  | .int i, _, h, _ => by cases h; exact .int i
  | .str x, _, h, _ => by cases h; exact .str x
  | .list ds, _, h, hc => by
    cases h with
    | lst e a => exact .lst (rdo_l e) (DrA.dp ds _ a (by simpa [PyData.canLay0] using hc))
  | .tuple ds, _, h, hc => by
    cases h with
    | tup e a => exact .tup (rdo_t e) (DrA.dp ds _ a (by simpa [PyData.canLay0] using hc))
  | .dict _, _, _, hc => by simp [PyData.canLay0] at hc
theorem DrA.dp {K : PySem.W.Frag} {H : Hp} : ∀ (ds : List PyData) (vs : List V), DrA H vs ds → PyData.canLayAll0 ds = true → DpAll K H vs ds
  | [], _, h, _ => by cases h; exact .nil
  | d :: ds, _, h, hc => by
    cases h with
    | cons a b =>
      have hc' : d.canLay0 = true ∧ PyData.canLayAll0 ds = true := by simpa [PyData.canLayAll0] using hc
      exact .cons (Dr.dp d _ a hc'.1) (DrA.dp ds _ b hc'.2)
end
def isSeq (o : Option HO) : Bool := match o with
  | some (.lst _) | some (.tup _) => true
  | _ => false
/-- == of values of unlike kinds, or with an empty list or tuple -/
def eqR (H : Hp) (x y : V) : Option Bool := match x, y with
  | .ref a, .ref b => (match rdo H a, rdo H b with
    | some (.tup xs), some (.tup []) => some xs.isEmpty
    | some (.lst xs), some (.lst []) => some xs.isEmpty
    | some (.lst _), some (.tup _) => some false
    | some (.tup _), some (.lst _) => some false
    | _, _ => none)
  | .ref a, .str _ => if isCol (rdo H a) = true then some false else none
  | .ref a, .int _ => if isSeq (rdo H a) = true then some false else none
  | .ref a, .bl _ => if isSeq (rdo H a) = true then some false else none
  | .ref a, .non => if isSeq (rdo H a) = true then some false else none
  | .str _, .ref a => if isSeq (rdo H a) = true then some false else none
  | .int _, .ref a => if isSeq (rdo H a) = true then some false else none
  | .bl _, .ref a => if isSeq (rdo H a) = true then some false else none
  | .non, .ref a => if isSeq (rdo H a) = true then some false else none
  | _, _ => none
theorem isSeq_at {H : Hp} {pins : List (Addr × Obj)} {σ : St} {s : Shared} {a : Addr} (I : Inv X pins σ H s) (h : isSeq (rdo H a) = true) : (∃ its : List Value, s.heap.IsList a its.toArray) ∨ ∃ its : List Value, s.heap.IsTuple a its.toArray := by
  unfold isSeq at h
  split at h
  · rename_i e
    obtain ⟨its, r, pl, _⟩ := I.list (rdo_l e)
    exact Or.inl ⟨its, pl.isList⟩
  · rename_i e
    obtain ⟨its, r, pl, _⟩ := I.tuple (rdo_t e)
    exact Or.inr ⟨its, pl⟩
  · cases h
theorem eqR_ok {H : Hp} {pins : List (Addr × Obj)} {σ : St} {s : Shared} {x y : V} {v u : Value} {k : Bool} (hu : X.A.units < cLine) (I : Inv X pins σ H s) (rx : RelV x v) (ry : RelV y u) (h : eqR H x y = some k) : SeqAt.RcAt X.A s v u k := by
  unfold eqR at h
  split at h
  · rename_i a b
    obtain rfl := (show v = Value.ref a from rx)
    obtain rfl := (show u = Value.ref b from ry)
    split at h
    · rename_i xs e1 e2
      injection h with h
      subst h
      obtain ⟨its, r, pl, _⟩ := I.tuple (rdo_t e1)
      obtain ⟨its2, r2, pl2, _⟩ := I.tuple (rdo_t e2)
      cases r2
      have q := SeqAt.RcAt.tuples (A := X.A) (e := fun _ => true) pl pl2 hu (fun j h1 h2 => by simp at h2)
      have : ((List.range (min its.toArray.size ([] : List Value).toArray.size)).all (fun _ => true) && its.toArray.size == ([] : List Value).toArray.size) = xs.isEmpty := by
        have l := r.length
        cases xs <;> cases its <;> simp_all
      rw [this] at q
      exact q
    · rename_i xs e1 e2
      injection h with h
      subst h
      obtain ⟨its, r, pl, _⟩ := I.list (rdo_l e1)
      obtain ⟨its2, r2, pl2, _⟩ := I.list (rdo_l e2)
      cases r2
      cases r with
      | nil =>
        have q := SeqAt.RcAt.lists (A := X.A) (e := fun _ => true) pl.isList pl2.isList rfl hu (fun j h1 h2 => by simp at h2)
        exact q
      | cons _ _ => exact SeqAt.RcAt.lists_lengths pl.isList pl2.isList (by simp) hu
    · rename_i e1 e2
      injection h with h
      subst h
      obtain ⟨its, r, pl, _⟩ := I.list (rdo_l e1)
      obtain ⟨its2, r2, pl2, _⟩ := I.tuple (rdo_t e2)
      exact SeqAt.RcAt.list_tuple pl.isList pl2 hu
    · rename_i e1 e2
      injection h with h
      subst h
      obtain ⟨its, r, pl, _⟩ := I.tuple (rdo_t e1)
      obtain ⟨its2, r2, pl2, _⟩ := I.list (rdo_l e2)
      exact SeqAt.RcAt.tuple_list pl pl2.isList hu
    · cases h
  all_goals first
    | (cases h; done)
    | (split at h
       · rename_i e
         injection h with h
         subst h
         first
           | (obtain rfl := (show v = Value.ref _ from rx)
              obtain ⟨t, rfl⟩ := ry
              exact rc_col_str _ _ I e hu)
           | (obtain rfl := (show v = Value.ref _ from rx)
              rcases isSeq_at I e with ⟨its, pl⟩ | ⟨its, pl⟩ <;> first
                | (obtain ⟨t, rfl⟩ := ry; first | exact SeqAt.RcAt.list_int _ _ pl hu | exact SeqAt.RcAt.tuple_int _ _ pl hu)
                | (obtain rfl := (show u = Value.bool _ from ry); first | exact SeqAt.RcAt.list_bool _ pl hu | exact SeqAt.RcAt.tuple_bool _ pl hu)
                | (obtain rfl := (show u = Value.none from ry); first | exact SeqAt.RcAt.list_none pl hu | exact SeqAt.RcAt.tuple_none pl hu))
           | (obtain rfl := (show u = Value.ref _ from ry)
              rcases isSeq_at I e with ⟨its, pl⟩ | ⟨its, pl⟩ <;> first
                | (obtain ⟨t, rfl⟩ := rx; first | exact SeqAt.RcAt.int_list _ _ pl hu | exact SeqAt.RcAt.int_tuple _ _ pl hu | exact SeqAt.RcAt.str_list _ _ pl hu | exact SeqAt.RcAt.str_tuple _ _ pl hu)
                | (obtain rfl := (show v = Value.bool _ from rx); first | exact SeqAt.RcAt.bool_list _ pl hu | exact SeqAt.RcAt.bool_tuple _ pl hu)
                | (obtain rfl := (show v = Value.none from rx); first | exact SeqAt.RcAt.none_list pl hu | exact SeqAt.RcAt.none_tuple pl hu))
       · cases h)
/-- == : plain values; unlike kinds; data without dicts -/
def rEqU : R2 := fun x y H Q =>
  if scal x y = true then Q (.bl (decide (x = y))) H else
  match eqR H x y with
  | some k => Q (.bl k) H
  | none => ∃ d e, Dr H x d ∧ Dr H y e ∧ SeqAt.shaped d = true ∧ SeqAt.shaped e = true ∧ Q (.bl (PyData.eqv d e)) H
theorem opEq (hu : X.A.units + 64 < cLine) : OpR X (compareOp .Eq) rEqU := by
  intro pins s σ H x y v u Q I rx ry h
  unfold rEqU at h
  split at h
  · rename_i e
    exact op_eq pins s σ H _ _ v u Q I rx ry ⟨e, h⟩
  · split at h
    · rename_i k e
      exact eqR_ok (by omega) I rx ry e X.prog X.w X.xe _ ⟨.bl k, H, I, rfl, h⟩
    · obtain ⟨d, e, hd, he, sd, se, q⟩ := h
      exact op_eqD hu pins s σ H _ _ v u Q I rx ry ⟨d, e, Dr.dp _ _ hd (SeqAt.canLay_of_shaped sd), Dr.dp _ _ he (SeqAt.canLay_of_shaped se), sd, se, q⟩
/-- != -/
def rNeU : R2 := fun x y H Q => if scal x y = true then Q (.bl (!decide (x = y))) H else ∃ d e, Dr H x d ∧ Dr H y e ∧ SeqAt.shaped d = true ∧ SeqAt.shaped e = true ∧ Q (.bl (!PyData.eqv d e)) H
theorem opNe (hu : X.A.units + 64 < cLine) : OpR X (compareOp .NotEq) rNeU := by
  intro pins s σ H x y v u Q I rx ry h
  unfold rNeU at h
  split at h
  · rename_i e
    exact op_ne pins s σ H _ _ v u Q I rx ry ⟨e, h⟩
  · obtain ⟨d, e, hd, he, sd, se, q⟩ := h
    exact op_neD hu pins s σ H _ _ v u Q I rx ry ⟨d, e, Dr.dp _ _ hd (SeqAt.canLay_of_shaped sd), Dr.dp _ _ he (SeqAt.canLay_of_shaped se), sd, se, q⟩
/-- is, is not: of None, of bools -/
def rIs : R2 := fun x y H Q => match x, y with
  | .bl a, .bl b => Q (.bl (decide (a = b))) H
  | x, .non => Q (.bl (decide (x = .non))) H
  | _, _ => False
theorem opIs : OpR X (compareOp .Is) rIs := by
  intro pins s σ H x y v u Q I rx ry h
  unfold rIs at h
  split at h
  · exact op_is_bl pins s σ H _ _ v u Q I rx ry ⟨_, _, rfl, rfl, h⟩
  · exact op_isN pins s σ H _ _ v u Q I rx ry ⟨rfl, h⟩
  · exact h.elim
/-! ### in -/
def rMem (neg : Bool) : R2 := fun x y H Q => match y with
  | .ref a => (match rdo H a with
    | some (.lst ys) => (flatV x = true ∧ ys.all flatV = true) ∧ Q (.bl (if neg then !inV x ys else inV x ys)) H
    | some (.tup ys) => (flatV x = true ∧ ys.all flatV = true) ∧ Q (.bl (if neg then !inV x ys else inV x ys)) H
    | some (.dK kvs) => (match keyOf x with
      | some k => Q (.bl (if neg then !(valV kvs k).isSome else (valV kvs k).isSome)) H
      | none => False)
    | _ => False)
  | _ => False
theorem opIn (hu : X.A.units + 1 < cLine) : OpR X (compareOp .In) (rMem false) := by
  intro pins s σ H x y v u Q I rx ry h
  unfold rMem at h
  split at h
  · split at h
    · rename_i e
      exact op_in_seq pins s σ H _ _ v u Q I rx ry ⟨_, _, rfl, Or.inl (rdo_l e), h.1.1, h.1.2, h.2⟩
    · rename_i e
      exact op_in_seq pins s σ H _ _ v u Q I rx ry ⟨_, _, rfl, Or.inr (rdo_t e), h.1.1, h.1.2, h.2⟩
    · rename_i e
      split at h
      · rename_i k ek
        obtain rfl := (show u = Value.ref _ from ry)
        exact d_in hu I (Or.inl ⟨_, k, rdo_rd e, keyOf_kV ek, rfl⟩) rx fun s' I' => ⟨.bl _, H, I', rfl, h⟩
      · exact h.elim
    · exact h.elim
  · exact h.elim
/-- the keys that a tuple of keys is made of -/
def keysOf : List V → Option (List Key)
  | [] => some []
  | y :: ys => match keyOf y, keysOf ys with
    | some k, some ks => some (k :: ks)
    | _, _ => none
theorem keysOf_kV : ∀ {ys : List V} {ks : List Key}, keysOf ys = some ks → ys = ks.map kV
  | [], _, e => by cases e; rfl
  | y :: ys, _, e => by
    unfold keysOf at e
    split at e
    · rename_i k ks e1 e2
      cases e
      rw [List.map_cons, ← keysOf_kV e2, keyOf_kV e1]
    · cases e
/-! ### subscripts -/
def rItem : R2 := fun x y H Q => match x with
  | .ref a => (match rdo H a with
    | some (.lst xs) => (match y with
      | .int i => (match atI xs i with
        | some v => Q v H
        | none => False)
      | _ => False)
    | some (.tup xs) => (match y with
      | .int i => (match atI xs i with
        | some v => Q v H
        | none => False)
      | _ => False)
    | some (.dK kvs) => (match keyOf y with
      | some k => (match valV kvs k with
        | some v => Q v H
        | none => False)
      | none => False)
    | some (.dT kvs) => (match y with
      | .ref b => (match H b with
        | some (.tup ys) => (match keysOf ys with
          | some k => (match valV kvs k with
            | some v => Q v H
            | none => False)
          | none => False)
        | _ => False)
      | _ => False)
    | _ => False)
  | .str z => (match y with
    | .int i => z.length ≤ sizeLine ∧ (match atI z.cps.toList i with
      | some c => Q (.str ⟨#[c]⟩) H
      | none => False)
    | _ => False)
  | _ => False
theorem ixItem (hu : X.A.units + 1 < cLine) : IxR X rItem := by
  intro value slice pins s σ H x y v u Q I rx ry h hs
  unfold rItem at h
  split at h
  · split at h
    · rename_i e
      split at h
      · split at h
        · rename_i z ez
          exact ix_list value slice pins s σ H _ _ v u Q I rx ry ⟨_, _, _, z, rfl, rfl, rdo_l e, ez, h⟩ hs
        · exact h.elim
      · exact h.elim
    · rename_i e
      split at h
      · split at h
        · rename_i z ez
          exact ix_tup value slice pins s σ H _ _ v u Q I rx ry ⟨_, _, _, z, rfl, rfl, rdo_t e, ez, h⟩ hs
        · exact h.elim
      · exact h.elim
    · rename_i e
      split at h
      · rename_i k ek
        split at h
        · rename_i z ez
          obtain rfl := (show v = Value.ref _ from rx)
          have g : DGet H _ y (some z) := Or.inl ⟨_, k, rdo_rd e, keyOf_kV ek, ez.symm⟩
          exact PyProof.Rows.tail_any (dict_typeIs I g) PySem.F.slot_dict_getitem.lookup (d_getItem hu I g ry fun w' s' I' rw' => ⟨z, H, I', rw', h⟩) hs
        · exact h.elim
      · exact h.elim
    · rename_i e
      split at h
      · split at h
        · rename_i eb
          split at h
          · rename_i k ek
            split at h
            · rename_i z ez
              obtain rfl := (show v = Value.ref _ from rx)
              have g : DGet H _ _ (some z) := Or.inr ⟨_, k, _, rdo_rd e, rfl, by rw [eb, keysOf_kV ek], ez.symm⟩
              exact PyProof.Rows.tail_any (dict_typeIs I g) PySem.F.slot_dict_getitem.lookup (d_getItem hu I g ry fun w' s' I' rw' => ⟨z, H, I', rw', h⟩) hs
            · exact h.elim
          · exact h.elim
        · exact h.elim
      · exact h.elim
    · exact h.elim
  · split at h
    · obtain ⟨hz, h⟩ := h
      split at h
      · rename_i c ec
        exact ix_str value slice pins s σ H _ _ v u Q I rx ry ⟨_, _, c, rfl, rfl, hz, ec, h⟩ hs
      · exact h.elim
    · exact h.elim
  · exact h.elim
/-- o[i] = v -/
def rStore : TSet := fun o i v H Q => match o with
  | .ref a => (match H a with
    | some (.lst xs) => (match i with
      | .int k => (match ixN xs.length k with
        | some j => Q (upd H a (.lst (xs.set j v)))
        | none => False)
      | _ => False)
    | some (.dK kvs) => (match keyOf i with
      | some k => kvs.length < sizeLine ∧ Q (upd H a (.dK (putK kvs k v)))
      | none => False)
    | some (.dT kvs) => (match i with
      | .ref b => (match H b with
        | some (.tup ys) => (match keysOf ys with
          | some k => kvs.length < sizeLine ∧ Q (upd H a (.dT (putK kvs k v)))
          | none => False)
        | _ => False)
      | _ => False)
    | _ => False)
  | _ => False
theorem setStore (hu : X.A.units + 1 < cLine) : PSet X rStore := by
  intro pins s σ H o i v ov iv u Q I ro ri rv h
  unfold rStore at h
  split at h
  · split at h
    · rename_i e
      split at h
      · split at h
        · rename_i j ej
          exact set_list pins s σ H _ _ v ov iv u Q I ro ri rv ⟨_, _, _, j, rfl, rfl, e, ej, h⟩
        · exact h.elim
      · exact h.elim
    · rename_i e
      split at h
      · rename_i k ek
        obtain rfl := (show ov = Value.ref _ from ro)
        exact d_setItem hu I (Or.inl ⟨_, k, e, keyOf_kV ek, h.1, rfl⟩) ri rv fun s' I' => ⟨_, I', h.2⟩
      · exact h.elim
    · rename_i e
      split at h
      · split at h
        · rename_i eb
          split at h
          · rename_i k ek
            obtain rfl := (show ov = Value.ref _ from ro)
            exact d_setItem hu I (Or.inr ⟨_, k, _, e, rfl, by rw [eb, keysOf_kV ek], h.1, rfl⟩) ri rv fun s' I' => ⟨_, I', h.2⟩
          · exact h.elim
        · exact h.elim
      · exact h.elim
    · exact h.elim
  · exact h.elim
/-! ### built-in functions -/
def rLen : List V → Hp → VK → Prop := fun vs H Q => match vs with
  | [.ref a] => (match rdo H a with
    | some (.lst xs) => Q (.int xs.length) H
    | some (.tup xs) => Q (.int xs.length) H
    | some (.dK kvs) => Q (.int kvs.length) H
    | _ => False)
  | [.str z] => z.length ≤ sizeLine ∧ Q (.int z.length) H
  | _ => False
theorem callLen : CallR X (.builtin "len") rLen := by
  intro pins s σ H xs us Q I r h
  unfold rLen at h
  split at h
  · split at h
    · rename_i e
      exact call_len_seq pins s σ H _ us Q I r ⟨_, _, rfl, Or.inl (rdo_l e), h⟩
    · rename_i e
      exact call_len_seq pins s σ H _ us Q I r ⟨_, _, rfl, Or.inr (rdo_t e), h⟩
    · rename_i kvs e
      obtain ⟨u, rfl, ru⟩ := vals1 r
      cases ru
      exact d_len I (rdo_rd e) fun t s' I' => ⟨.int kvs.length, H, I', ⟨t, rfl⟩, h⟩
    · exact h.elim
  · exact call_len pins s σ H _ us Q I r ⟨_, _, rfl, ⟨h.1, rfl⟩, h.2⟩
  · exact h.elim
def rInt : List V → Hp → VK → Prop := fun vs H Q => match vs with
  | [.int i] => Q (.int i) H
  | [.bl k] => Q (.int (if k then 1 else 0)) H
  | _ => False
theorem callInt : CallR X (.type "int") rInt := by
  intro pins s σ H xs us Q I r h
  unfold rInt at h
  split at h
  · exact call_int1 pins s σ H _ us Q I r (Or.inl ⟨_, rfl, h⟩)
  · exact call_int1 pins s σ H _ us Q I r (Or.inr ⟨_, rfl, h⟩)
  · exact h.elim
def rMax : List V → Hp → VK → Prop := fun vs H Q => match vs with
  | [.int i, .int j] => Q (.int (if j > i then j else i)) H
  | _ => False
def rMin : List V → Hp → VK → Prop := fun vs H Q => match vs with
  | [.int i, .int j] => Q (.int (if j < i then j else i)) H
  | _ => False
theorem callMax (hc : X.calm = true) : CallR X (.builtin "max") rMax := by
  intro pins s σ H xs us Q I r h
  unfold rMax at h
  split at h
  · exact call_max2 hc pins s σ H _ us Q I r ⟨_, _, rfl, h⟩
  · exact h.elim
theorem callMin (hc : X.calm = true) : CallR X (.builtin "min") rMin := by
  intro pins s σ H xs us Q I r h
  unfold rMin at h
  split at h
  · exact call_min2 hc pins s σ H _ us Q I r ⟨_, _, rfl, h⟩
  · exact h.elim
/-! ### isinstance of built-in classes -/
def tyN (x : V) (H : Hp) : Option String := match x with
  | .non => some "NoneType"
  | .bl _ => some "bool"
  | .int _ => some "int"
  | .str _ => some "str"
  | .ref a => (match rdo H a with
    | some (.lst _) => some "list"
    | some (.tup _) => some "tuple"
    | some (.dK _) => some "dict"
    | _ => none)
  | _ => none
def subN (T c : String) : Bool := T == c || (T == "bool" && c == "int")
def okCls : List String := ["str", "int", "bool", "tuple", "list", "dict"]
theorem kit_sub {K : PySem.W.Frag} {T c : String} (hT : T ∈ ["NoneType", "bool", "int", "str", "list", "tuple", "dict"]) (hc : c ∈ okCls) : PySem.W.kitOne K (.type T) (.type c) = some (subN T c) := by
  simp only [List.mem_cons, List.not_mem_nil, or_false] at hT
  simp only [okCls, List.mem_cons, List.not_mem_nil, or_false] at hc
  rcases hT with rfl | rfl | rfl | rfl | rfl | rfl | rfl <;> rcases hc with rfl | rfl | rfl | rfl | rfl | rfl <;> exact kit_ty (by decide +kernel)
theorem tyX_of {K : PySem.W.Frag} {x : V} {H : Hp} {T : String} (h : tyN x H = some T) : TyX K H x (.type T) ∧ T ∈ ["NoneType", "bool", "int", "str", "list", "tuple", "dict"] := by
  unfold tyN at h
  split at h
  · cases h; exact ⟨.base .non, by simp⟩
  · cases h; exact ⟨.base (.bl _), by simp⟩
  · cases h; exact ⟨.base (.int _), by simp⟩
  · cases h; exact ⟨.base (.str _), by simp⟩
  · split at h
    · rename_i e
      cases h
      rcases rdo_rd e with e | ⟨o, e⟩
      · exact ⟨.base (.lst e), by simp⟩
      · exact ⟨.base (.frz e), by simp⟩
    · rename_i e
      cases h
      rcases rdo_rd e with e | ⟨o, e⟩
      · exact ⟨.base (.tup e), by simp⟩
      · exact ⟨.fTuple e, by simp⟩
    · rename_i e
      cases h
      rcases rdo_rd e with e | ⟨o, e⟩
      · exact ⟨.base (.dK e), by simp⟩
      · exact ⟨.fDict e, by simp⟩
    · cases h
  · cases h
def rIsi : List V → Hp → VK → Prop := fun vs H Q => match vs with
  | [x, .ty c] => c ∈ okCls ∧ (match tyN x H with
    | some T => Q (.bl (subN T c)) H
    | none => False)
  | _ => False
theorem callIsi : CallR X (.builtin "isinstance") rIsi := by
  intro pins s σ H xs us Q I r h
  unfold rIsi at h
  split at h
  · rename_i x c
    obtain ⟨hc, h⟩ := h
    split at h
    · rename_i T e
      obtain ⟨h1, h2⟩ := tyX_of (K := X.K) e
      exact call_isi pins s σ H _ us Q I r ⟨x, .ty c, _, _, _, rfl, .ty c, h1, kit_sub h2 hc, h⟩
    · exact h.elim
  · exact h.elim
/-! ### slices -/
def rSlice : V → Option Int → Option Int → Hp → VK → Prop := fun x lo hi H Q => match x with
  | .str z => z.length ≤ sizeLine ∧ Q (.str (cutS z lo hi)) H
  | .ref a => (match rdo H a with
    | some (.lst xs) => ∀ p, H p = none → Q (.ref p) (upd H p (.lst (cutV xs lo hi)))
    | some (.tup xs) => (HT.sIx xs.length 0 lo = 0 ∧ HT.sIx xs.length xs.length hi = xs.length → Q (.ref a) H) ∧ (¬ (HT.sIx xs.length 0 lo = 0 ∧ HT.sIx xs.length xs.length hi = xs.length) → ∀ p, H p = none → Q (.ref p) (upd H p (.tup (cutV xs lo hi))))
    | _ => False)
  | _ => False
theorem slSlice : SlR X rSlice := by
  intro pins s σ H x v vl vu lo hi sl Q I rx hs pl pu h
  unfold rSlice at h
  split at h
  · exact sl_str pins s σ H _ v vl vu lo hi sl Q I rx hs pl pu ⟨_, rfl, h.1, h.2⟩
  · split at h
    · rename_i e
      exact sl_list pins s σ H _ v vl vu lo hi sl Q I rx hs pl pu ⟨_, _, rfl, rdo_l e, h⟩
    · rename_i e
      exact sl_tupA pins s σ H _ v vl vu lo hi sl Q I rx hs pl pu ⟨_, _, rfl, rdo_t e, h.1, h.2⟩
    · exact h.elim
  · exact h.elim
/-! ### methods of lists, texts -/
def isL (o : Option HO) : Bool := match o with
  | some (.lst _) => true
  | _ => false
/-! ### truth -/
def truN (x : V) (H : Hp) : Option Bool := match x with
  | .non => some false
  | .bl b => some b
  | .int i => some (i != 0)
  | .ref a => (match rdo H a with
    | some (.lst xs) => some (!xs.isEmpty)
    | some (.tup xs) => some (!xs.isEmpty)
    | some (.dK kvs) => (match H a with
      | some (.dK _) => some (!kvs.isEmpty)
      | _ => none)
    | _ => none)
  | _ => none
theorem truV_of {K : PySem.W.Frag} {x : V} {H : Hp} {k : Bool} (h : truN x H = some k) : TruV K x H k := by
  unfold truN at h
  split at h
  · cases h; rfl
  · cases h; rfl
  · cases h; rfl
  · split at h
    · rename_i e
      cases h
      exact Or.inl ⟨_, rdo_l e, rfl⟩
    · rename_i e
      cases h
      exact Or.inr (Or.inl ⟨_, rdo_t e, rfl⟩)
    · rename_i e
      split at h
      · rename_i kvs' e'
        cases h
        have e2 := rdo_of e' (fun _ _ z => nomatch z)
        rw [e2] at e
        cases e
        exact Or.inr (Or.inr ⟨_, e', rfl⟩)
      · cases h
    · cases h
  · cases h
/-- a value as a test -/
def tTru (ta : TE) : TT := fun σ H Q => ta σ H fun x H1 => match truN x H1 with
  | some k => Q k H1
  | none => False
theorem pt_tru {a : Expr} {ta : TE} (ha : PE X a ta) (he : ∀ whole, isTrue a X.env whole = (do let v ← whole; standAt a.pos; holding [v] (truthy v)) := by intro _; rfl) : PT X a (tTru ta) :=
  pt_truthR (r := fun x H Q => match truN x H with | some k => Q k H | none => False) ha (fun pins s σ H x v Q I rx h => by
    dsimp only at h
    split at h
    · rename_i k e
      exact tru_ok pins s σ H x v Q I rx ⟨k, truV_of e, h⟩
    · exact h.elim) he
end
end Rm
/-! Rm, part D: defs by name, the law's end. -/
namespace Rm
open PySem PySem.Spec L2
open PyProof.Rows hiding St
/-- built-in names that the module does not bind -/
structure Bt (mg : Str → Option Value) : Prop where
  len : mg "len" = none
  range : mg "range" = none
  int : mg "int" = none
  isinstance : mg "isinstance" = none
  repr : mg "repr" = none
  list : mg "list" = none
  tuple : mg "tuple" = none
  dict : mg "dict" = none
  set : mg "set" = none
  str : mg "str" = none
  bool : mg "bool" = none
  max : mg "max" = none
  min : mg "min" = none
  sorted : mg "sorted" = none
  enumerate : mg "enumerate" = none
  zip : mg "zip" = none
  abs : mg "abs" = none
  all : mg "all" = none
  any : mg "any" = none
  sup : mg "super" = none
  ve : mg "ValueError" = none
  te : mg "TypeError" = none
theorem bt_max : bootBuiltins "max" = some (.builtin "max") := by decide +kernel
theorem bt_min : bootBuiltins "min" = some (.builtin "min") := by decide +kernel
theorem bt_len : bootBuiltins "len" = some (.builtin "len") := by decide +kernel
section
variable (P : Program) (w : World) (K : PySem.W.Frag) (mg : Str → Option Value) (base : Heap)
/-- a def of the module, by its name -/
structure Def (x : Str) (ps : List Str) (k : Nat) (sp : Sp) : Prop where
  ex : ∃ (f : Addr) (fd : FuncData), mg x = some (.ref f) ∧ PySem.W.keepIn K (.ref f) = true ∧ Binds K fd ps [] ∧ FnOk P w K mg base (L2.CX P w) k f fd ps sp ∧ ∃ oc od osl, K.lookup f = some ⟨oc, od, .func fd, osl⟩
/-- the same where no repr is under way -/
structure DefG (x : Str) (ps : List Str) (k : Nat) (sp : Sp) : Prop where
  ex : ∃ (f : Addr) (fd : FuncData), mg x = some (.ref f) ∧ PySem.W.keepIn K (.ref f) = true ∧ Binds K fd ps [] ∧ FnG P w K mg base (L2.CX P w) k f fd ps sp ∧ ∃ oc od osl, K.lookup f = some ⟨oc, od, .func fd, osl⟩
end
section
variable {P : Program} {w : World} {K : PySem.W.Frag} {mg : Str → Option Value} {base : Heap}
theorem Def.g {x : Str} {ps : List Str} {k : Nat} {sp : Sp} (d : Def P w K mg base x ps k sp) : DefG P w K mg base x ps k sp := by
  obtain ⟨f, fd, a, b, c, F, l⟩ := d.ex
  exact ⟨f, fd, a, b, c, FnG.of F, l⟩
/-- a weaker promise -/
theorem Def.imp {x : Str} {ps : List Str} {k : Nat} {sp sp' : Sp} (d : Def P w K mg base x ps k sp) (h : ∀ vs H Q E, sp' vs H Q E → sp vs H Q E) : Def P w K mg base x ps k sp' := by
  obtain ⟨f, fd, a, b, c, F, l⟩ := d.ex
  exact ⟨f, fd, a, b, c, F.imp h, l⟩
/-- a def as it stands behind the top, its arguments bind in order -/
structure At (K : PySem.W.Frag) (mg : Str → Option Value) (x qual : Str) (st : Stmt) (ps : List Str) (f : Addr) (fd : FuncData) : Prop where
  fn : FunD K x qual (defArgs st) (defBody st) (defScope st) [] [] f fd
  mg : mg x = some (.ref f)
  b : Binds K fd ps []
theorem okD {x qual : Str} {st : Stmt} {f : Addr} {fd : FuncData} {N ps : List Str} {k : Nat} {sp : Sp} (F : At K mg x qual st ps f fd) (S : FnScope N ps (defScope st)) (len : ∀ vs H Q E, sp vs H Q E → vs.length = ps.length)
    (hb : ∀ (cdv : Value) (A : Around) (outer : List Env) (s : Shared) (H : Hp) (vs : List V) (Q : VK) (E : XK), Room k (cxOf (L2.CX P w) P w K mg base N qual (defScope st) f cdv A outer s H E).A →
      Takes (cxOf (L2.CX P w) P w K mg base N qual (defScope st) f cdv A outer s H E) (fun cls d _ H => E cls d H) →
      PassesOwn (model P w) (cxOf (L2.CX P w) P w K mg base N qual (defScope st) f cdv A outer s H E).A (cxOf (L2.CX P w) P w K mg base N qual (defScope st) f cdv A outer s H E).env (cxOf (L2.CX P w) P w K mg base N qual (defScope st) f cdv A outer s H E).xe → sp vs H Q E →
      ∃ t, PSs (cxOf (L2.CX P w) P w K mg base N qual (defScope st) f cdv A outer s H E) (defBody st) t ∧ t { nx := fun _ H' => Q .non H', rt := Q } (start N vs) H) : Def P w K mg base x ps (k + 1) sp := by
  have lk : ∃ oc od osl, K.lookup f = some ⟨oc, od, .func fd, osl⟩ := by
    obtain ⟨oc, od, _, _, _, _, _, _, _, osl, e, l, _⟩ := F.fn.ex
    exact ⟨oc, od, osl, by rw [l, e]⟩
  refine ⟨f, fd, F.mg, F.fn.kp, F.b, F.fn.ok S len fun cdv A outer s H vs Q E hr h => ?_, lk⟩
  exact hb cdv A outer s H vs Q E hr (takes_of rfl rfl rfl rfl) (passes_of rfl) h
theorem okDG {x qual : Str} {st : Stmt} {f : Addr} {fd : FuncData} {N ps : List Str} {k : Nat} {sp : Sp} (F : At K mg x qual st ps f fd) (S : FnScope N ps (defScope st)) (len : ∀ vs H Q E, sp vs H Q E → vs.length = ps.length)
    (hb : ∀ (cdv : Value) (A : Around) (outer : List Env) (s : Shared) (H : Hp) (vs : List V) (Q : VK) (E : XK), (cxOf (L2.CX P w) P w K mg base N qual (defScope st) f cdv A outer s H E).A.guards = some [] → Room k (cxOf (L2.CX P w) P w K mg base N qual (defScope st) f cdv A outer s H E).A →
      Takes (cxOf (L2.CX P w) P w K mg base N qual (defScope st) f cdv A outer s H E) (fun cls d _ H => E cls d H) →
      PassesOwn (model P w) (cxOf (L2.CX P w) P w K mg base N qual (defScope st) f cdv A outer s H E).A (cxOf (L2.CX P w) P w K mg base N qual (defScope st) f cdv A outer s H E).env (cxOf (L2.CX P w) P w K mg base N qual (defScope st) f cdv A outer s H E).xe → sp vs H Q E →
      ∃ t, PSs (cxOf (L2.CX P w) P w K mg base N qual (defScope st) f cdv A outer s H E) (defBody st) t ∧ t { nx := fun _ H' => Q .non H', rt := Q } (start N vs) H) : DefG P w K mg base x ps (k + 1) sp := by
  have lk : ∃ oc od osl, K.lookup f = some ⟨oc, od, .func fd, osl⟩ := by
    obtain ⟨oc, od, _, _, _, _, _, _, _, osl, e, l, _⟩ := F.fn.ex
    exact ⟨oc, od, osl, by rw [l, e]⟩
  refine ⟨f, fd, F.mg, F.fn.kp, F.b, okG F.fn S len fun cdv A outer s H vs Q E hG hr h => ?_, lk⟩
  exact hb cdv A outer s H vs Q E hG hr (takes_of rfl rfl rfl rfl) (passes_of rfl) h
/-- at the def's own object -/
theorem DefG.fn {x qual : Str} {st : Stmt} {ps : List Str} {k : Nat} {sp : Sp} {f0 : Addr} {fd0 : FuncData} (D : DefG P w K mg base x ps k sp) (F : At K mg x qual st ps f0 fd0) : FnG P w K mg base (L2.CX P w) k f0 fd0 ps sp := by
  obtain ⟨f, fd, a, _, _, Fn, oc, od, osl, l⟩ := D.ex
  have e := F.mg.symm.trans a
  injection e with e
  injection e with e
  subst e
  obtain ⟨oc', od', _, _, _, _, _, _, _, osl', ef, l', _⟩ := F.fn.ex
  have e2 := l'.symm.trans l
  injection e2 with e2
  injection e2 with _ _ e2 _
  injection e2 with e2
  rw [e2]
  exact Fn
end
section
variable {X : Cx} {k : Nat} {ps : List Str} {sp : Sp} {x : Str} {p pos : Pos} {e : Expr} {es : List Expr} {t : TA} {W : WX}
theorem pe_fn (D : Def X.prog X.w X.K X.mg X.base x ps k sp) (hr : Room k X.A) (tk : Takes X W) (ha : PA X (e :: es) t) (hg : Gl X x := by rfl) (hdb : (x == ("__debug__" : Str)) = false := by decide)
    (he : starEach (e :: es) X.env = (false, eval e X.env) :: starEach es X.env := by rfl) (hpl : (backTo pos (starEach es X.env)).any (·.1) = false := by rfl) : PE X (.Call (.Name x p) (e :: es) [] pos) (tCallS sp (WE W) t) := by
  obtain ⟨f, fd, a, b, c, F, _⟩ := D.ex
  exact pe_callS F hr hg a b c (fun σ => passAt tk σ) ha hdb he hpl
/-- the name in slot i -/
def tV (i : Nat) : TE := fun σ H Q => match σ[i]? with
  | some (some v) => Q v H
  | _ => False
theorem pn (i : Nat) (hN : X.N[i]? = some x := by rfl) (hv : Vis X.env.scope x := by first | exact Or.inl rfl | exact Or.inr (Or.inl rfl) | exact Or.inr (Or.inr rfl)) (hd : (x == ("__debug__" : Str)) = false := by decide)
    (hcd : (x == ("__classdict__" : Str)) = false := by decide) : PE X (.Name x pos) (tV i) := ⟨fun pins s σ H Q I h => by
  refine (pe_var (X := X) (i := i) hN hv hd hcd).run pins s σ H Q I ?_
  unfold tV at h
  split at h
  · rename_i v e
    exact ⟨v, e, h⟩
  · exact h.elim⟩
/-- one statement at a time: what follows has a name -/
theorem sq {t u : TS} {D : Ends} {σ : St} {H : Hp} (h : ∀ N : St → Hp → Prop, (∀ σ' H', u D σ' H' → N σ' H') → t { D with nx := N } σ H) : tSeq t u D σ H := h _ fun _ _ z => z
theorem room100 {A : Around} {n : Nat} (hr : Room n A) : A.units + 100 < cLine := by
  have := hr.un
  omega
end
end Rm
/-! Rm, part T: the tape of draws, as all laws have it. -/
namespace Rm
open PySem PySem.Spec L2
open PyProof.Rows hiding St
def tapeK (d m : Int) : List (Key × V) := [(.inr "digits", .int d), (.inr "mixed", .int m)]
theorem kDM : ¬ ("digits" : Str) = "mixed" := by decide +kernel
/-- a tape stands at t -/
def TapeAt (H : Hp) (t : Addr) : Prop := ∃ d m, H t = some (.dK (tapeK d m)) ∧ 0 ≤ m ∧ m < 2 ^ 32
theorem two_lt_line {n : Nat} (h : n ≤ 1000) : n < sizeLine := Nat.lt_of_le_of_lt h (by decide)
theorem bits_small {i : Int} (h : i.natAbs < 2 ^ 64) : (Builtin.Int.intBits i : Int) ≤ 64 := by
  have := PySem.intBits_le_64 (k := i) (by omega) (by omega)
  omega
theorem bits_nat {i : Int} {k : Nat} (h : i.natAbs < 2 ^ k) : Builtin.Int.intBits i ≤ k := PyProof.Rows.intBits_le h
theorem bits_lt {i : Int} {k : Nat} (h : Builtin.Int.intBits i ≤ k) : i.natAbs < 2 ^ k := by
  unfold Builtin.Int.intBits at h
  split at h
  · rename_i e
    have e' : i = 0 := by simpa using e
    subst e'
    exact Nat.two_pow_pos k
  · exact Nat.lt_of_lt_of_le Nat.lt_log2_self (Nat.pow_le_pow_right (by decide) h)
theorem tape_abs {m z : Int} {k : Nat} (hm : 0 ≤ m ∧ m < 2147483565) (hk : 100 ≤ k) (hz : z.natAbs < 2 ^ k) : (m * 30013 + z * z + 11).natAbs < 2 ^ (k + k + 1) := by
  have h1 : (z * z).natAbs < 2 ^ (k + k) := by
    rw [Int.natAbs_mul, Nat.pow_add]
    exact Nat.mul_lt_mul'' hz hz
  have a1 : (m * 30013 + z * z + 11).natAbs ≤ (m * 30013 + 11).natAbs + (z * z).natAbs := by
    rw [show m * 30013 + z * z + 11 = (m * 30013 + 11) + z * z by omega]
    exact Int.natAbs_add_le _ _
  have a2 : (m * 30013 + 11).natAbs ≤ 2 ^ 100 := by omega
  have a3 : (2 : Nat) ^ 100 ≤ 2 ^ (k + k) := Nat.pow_le_pow_right (by decide) (by omega)
  have a4 : (2 : Nat) ^ (k + k + 1) = 2 ^ (k + k) * 2 := Nat.pow_succ ..
  omega
theorem tape_bits {m z : Int} (hm : 0 ≤ m ∧ m < 2147483565) (h : Builtin.Int.intBits z ≤ 1048576) : (Builtin.Int.intBits (m * 30013 + z * z + 11) : Int) * 2 ≤ 2 ^ 27 := by
  have h3 := bits_nat (tape_abs hm (by decide) (bits_lt h))
  omega
end Rm
/-! Rm, part E: written data (literals), parts of heaps. -/
namespace Rm
open PySem PySem.Spec L2
open PyProof.Rows hiding St
/-- H without t -/
def hid (t : Addr) (H : Hp) : Hp := fun b => if b = t then none else H b
theorem hid_ne {t b : Addr} {H : Hp} (h : b ≠ t) : hid t H b = H b := if_neg h
theorem hid_some {t b : Addr} {H : Hp} {o : HO} (h : hid t H b = some o) : b ≠ t ∧ H b = some o := by
  unfold hid at h
  split at h
  · cases h
  · rename_i n
    exact ⟨n, h⟩
theorem Ext.hid_in {t : Addr} {H : Hp} : Ext (hid t H) H := fun a o h => (hid_some h).2
theorem Ext.hid {t : Addr} {H H' : Hp} (h : ∀ b o, b ≠ t → H b = some o → H' b = some o) : Ext (hid t H) (hid t H') := fun a o e => by
  obtain ⟨n, q⟩ := hid_some e
  rw [hid_ne n]
  exact h a o n q
/-- no sealed cell -/
def nofrz : HO → Bool
  | .frz _ _ => false
  | .tbl _ => false
  | _ => true
/-- what is new in H' (sealed cells left out) -/
def newp (H H' : Hp) : Hp := fun b => match H b, H' b with
  | none, some o => if nofrz o then some o else none
  | _, _ => none
theorem newp_some' {H H' : Hp} {b : Addr} {o : HO} (h : newp H H' b = some o) : H b = none ∧ H' b = some o ∧ nofrz o = true := by
  unfold newp at h
  split at h
  · rename_i e1 e2
    split at h
    · rename_i n
      cases h
      exact ⟨e1, e2, n⟩
    · cases h
  · cases h
theorem newp_some {H H' : Hp} {b : Addr} {o : HO} (h : newp H H' b = some o) : H b = none ∧ H' b = some o := ⟨(newp_some' h).1, (newp_some' h).2.1⟩
theorem newp_not {H H' : Hp} : ∀ b ps, newp H H' b ≠ some (.tbl ps) := fun b ps e => by
  have := (newp_some' e).2.2
  cases this
theorem newp_of {H H' : Hp} {b : Addr} {o : HO} (h : H b = none) (h' : H' b = some o) (n : nofrz o = true := by rfl) : newp H H' b = some o := by
  unfold newp
  rw [h, h']
  exact if_pos n
theorem Ext.none {H H' : Hp} (e : Ext H H') {b : Addr} (h : H' b = none) : H b = none := by
  cases q : H b with
  | none => rfl
  | some o => rw [e b o q] at h; cases h
theorem newp_left {H H1 H2 : Hp} (e : Ext H1 H2) : Ext (newp H H1) (newp H H2) := fun a o h => by
  obtain ⟨h1, h2, n⟩ := newp_some' h
  exact newp_of h1 (e a o h2) n
theorem newp_right {H H1 H2 : Hp} (e : Ext H H1) : Ext (newp H1 H2) (newp H H2) := fun a o h => by
  obtain ⟨h1, h2, n⟩ := newp_some' h
  exact newp_of (e.none h1) h2 n
/-- a written datum -/
def tLit (d : PyData) : TE := fun _ H Q => ∀ (v : V) (H' : Hp), Ext H H' → Dr (newp H H') v d → Q v H'
def tLitA (ds : List PyData) : TA := fun _ H Q => ∀ (vs : List V) (H' : Hp), Ext H H' → DrA (newp H H') vs ds → Q vs H'
section
variable {X : Cx}
theorem PE.imp {e : Expr} {t t' : TE} (h : PE X e t) (i : ∀ σ H Q, t' σ H Q → t σ H Q) : PE X e t' := ⟨fun pins s σ H Q I q => h.run pins s σ H Q I (i σ H Q q)⟩
theorem PA.imp {es : List Expr} {t t' : TA} (h : PA X es t) (i : ∀ σ H Q, t' σ H Q → t σ H Q) : PA X es t' := ⟨fun pos pins s σ H Q I q => h.run pos pins s σ H Q I (i σ H Q q)⟩
theorem li_int {i j pos} : PE X (.Constant (.int i) j pos) (tLit (.int i)) := PE.imp pe_int fun _ H _ q => q (.int i) H (Ext.refl H) (.int i)
theorem li_bl {b j pos} : PE X (.Constant (.bool b) j pos) (tLit (.bool b)) := PE.imp pe_bl fun _ H _ q => q (.bl b) H (Ext.refl H) (.bl b)
theorem li_non {j pos} : PE X (.Constant .none j pos) (tLit .none) := PE.imp pe_non fun _ H _ q => q .non H (Ext.refl H) .non
theorem li_str {x j pos} : PE X (.Constant (.str x) j pos) (tLit (.str x)) := PE.imp pe_str fun _ H _ q => q (.str x) H (Ext.refl H) (.str x)
/-- a number reckoned from written ones -/
theorem li_num {e : Expr} {t : TE} {i : Int} (h : PE X e t) (i' : ∀ σ H (Q : VK), Q (.int i) H → t σ H Q) : PE X e (tLit (.int i)) := PE.imp h fun σ H Q q => i' σ H Q (q (.int i) H (Ext.refl H) (.int i))
theorem la_nil : PA X [] (tLitA []) := PA.imp pa_nil fun _ H _ q => q [] H (Ext.refl H) .nil
theorem la_cons {e : Expr} {es : List Expr} {d : PyData} {ds : List PyData} (h : PE X e (tLit d)) (hr : PA X es (tLitA ds)) (hs : starEach (e :: es) X.env = (false, eval e X.env) :: starEach es X.env := by rfl) : PA X (e :: es) (tLitA (d :: ds)) :=
  PA.imp (pa_cons h hr hs) fun σ H Q q v H1 e1 d1 vs H2 e2 d2 => q (v :: vs) H2 (e1.trans e2) (.cons (Dr.ext (newp_left e2) d1) (DrA.ext (newp_right e1) d2))
theorem li_tup {es : List Expr} {x1 pos} {ds : List PyData} (h : PA X es (tLitA ds)) (hl : ds.length ≤ 1000 := by decide) : PE X (.Tuple es x1 pos) (tLit (.tuple ds)) :=
  PE.imp (pe_tup h) fun σ H Q q vs H1 e1 d1 => ⟨by have := d1.length; exact Nat.le_of_lt (two_lt_line (by omega)), fun p hp => q (.ref p) _ (e1.trans (Ext.new hp)) (.tup (rdo_of (newp_of (e1.none hp) upd_same) (fun _ _ z => nomatch z)) (DrA.ext (newp_left (Ext.new hp)) d1))⟩
theorem li_lst {es : List Expr} {pos} {ds : List PyData} (h : PA X es (tLitA ds)) (hl : ds.length ≤ 1000 := by decide) : PE X (.List es pos) (tLit (.list ds)) :=
  PE.imp (pe_lst h) fun σ H Q q vs H1 e1 d1 => ⟨by have := d1.length; exact Nat.le_of_lt (two_lt_line (by omega)), fun p hp => q (.ref p) _ (e1.trans (Ext.new hp)) (.lst (rdo_of (newp_of (e1.none hp) upd_same) (fun _ _ z => nomatch z)) (DrA.ext (newp_left (Ext.new hp)) d1))⟩
theorem li_dict0 {pos} : PE X (.Dict [] [] pos) (tLit (.dict [])) := PE.imp pe_dnewK fun σ H Q q p hp => q (.ref p) _ (Ext.new hp) (.dct (rdo_of (newp_of hp upd_same) (fun _ _ z => nomatch z)) .nil)
/-- a dict of one written pair -/
theorem li_dict1 {k v : Expr} {kk : Key} {d : PyData} {pos} (hk : PE X k (tC (kV kk))) (hv : PE X v (tLit d)) : PE X (.Dict [some k] [v] pos) (tLit (.dict [(keyD kk, d)])) :=
  PE.imp (pe_disp (pps_cons hk hv pps_nil) rfl rfl (fun z => by cases z) (by show 1 ≤ 15; decide)) fun σ H Q q p hp => fun x H1 e1 d1 => by
    have ep : H1 p = some (.dK []) := e1 _ _ upd_same
    refine ⟨ep, [(kk, x)], rfl, by show 1 ≤ 15; decide, q (.ref p) _ ?_ ?_⟩
    · exact fun a o h => by rw [upd_ne (ne_of_none h hp)]; exact e1 a o (by rw [upd_ne (ne_of_none h hp)]; exact h)
    · refine .dct (rdo_of (newp_of hp upd_same) (fun _ _ z => nomatch z)) (.cons (Dr.ext (fun a o h => ?_) d1) .nil)
      obtain ⟨h1, h2, nf⟩ := newp_some' h
      have n : a ≠ p := fun z => by rw [z, upd_same] at h1; cases h1
      rw [upd_ne n] at h1
      exact newp_of h1 (by rw [upd_ne n]; exact h2) nf
end
theorem DrA.append {H : Hp} : ∀ {vs ws : List V} {ds es : List PyData}, DrA H vs ds → DrA H ws es → DrA H (vs ++ ws) (ds ++ es)
  | [], _, _, _, a, b => by cases a; exact b
  | v :: vs, _, _, _, a, b => by
    cases a with
    | cons h a => exact .cons h (DrA.append a b)
theorem DrA.mem {H : Hp} {v : V} : ∀ {vs : List V} {ds : List PyData}, DrA H vs ds → v ∈ vs → ∃ d, d ∈ ds ∧ Dr H v d
  | [], _, _, h => by cases h
  | w :: vs, _, a, h => by
    cases a with
    | @cons _ _ d ds h1 a =>
      rcases List.mem_cons.mp h with e | h
      · subst e
        exact ⟨d, List.mem_cons_self, h1⟩
      · obtain ⟨d', m, q⟩ := DrA.mem a h
        exact ⟨d', List.mem_cons_of_mem _ m, q⟩
end Rm
/-! Rm, part F: how long a datum is, shown. -/
namespace Rm
open PySem PySem.Spec L2
open PyProof.Rows hiding St
mutual
def lnB : PyData → Nat
  | .none => 4
  | .bool _ => 5
  | .int _ => 1921
  | .str x => 10 * x.length + 2
  | .list xs => lnA xs + 3
  | .tuple xs => lnA xs + 4
  | .dict kvs => lnK kvs + 3
def lnA : List PyData → Nat
  | [] => 0
  | x :: xs => lnB x + 2 + lnA xs
def lnK : List (PyData × PyData) → Nat
  | [] => 0
  | (k, v) :: r => lnB k + lnB v + 4 + lnK r
end
mutual
def okB : PyData → Bool
  | .none => true
  | .bool _ => true
  | .int i => decide (i.natAbs.log2 < 1920)
  | .str x => x.cps.toList.all fun c => decide (c < 16 ^ 8)
  | .list xs => okA xs
  | .tuple xs => okA xs
  | .dict kvs => okK kvs
def okA : List PyData → Bool
  | [] => true
  | x :: xs => okB x && okA xs
def okK : List (PyData × PyData) → Bool
  | [] => true
  | (k, v) :: r => okB k && (okB v && okK r)
end
/-- shown at most n signs, at most k deep -/
def fineB (n k : Nat) (d : PyData) : Bool := okB d && (decide (lnB d ≤ n) && decide (d.depth ≤ k))
def Fine (n k : Nat) (d : PyData) : Prop := fineB n k d = true
theorem fine_iff {n k : Nat} {d : PyData} : Fine n k d ↔ okB d = true ∧ lnB d ≤ n ∧ d.depth ≤ k := by
  simp only [Fine, fineB, Bool.and_eq_true, decide_eq_true_eq]
theorem Fine.mono {n k n' k' : Nat} {d : PyData} (h : Fine n k d) (hn : n ≤ n') (hk : k ≤ k') : Fine n' k' d := by
  obtain ⟨a, b, c⟩ := fine_iff.mp h
  exact fine_iff.mpr ⟨a, by omega, by omega⟩
theorem log2_small {i : Int} (h0 : -(2 ^ 200) < i) (h1 : i < 2 ^ 200) : i.natAbs.log2 < 1920 := by
  by_cases z : i.natAbs = 0
  · rw [z]; decide
  · exact (Nat.log2_lt z).mpr (Nat.lt_of_lt_of_le (show i.natAbs < 2 ^ 200 by omega) (Nat.pow_le_pow_right (by decide) (by decide)))
theorem fine_int {n k : Nat} {i : Int} (h0 : -(2 ^ 200) < i) (h1 : i < 2 ^ 200) (h : 1921 ≤ n := by decide) : Fine n k (.int i) := fine_iff.mpr ⟨by simp only [okB, decide_eq_true_eq]; exact log2_small h0 h1, by simp only [lnB]; exact h, by simp only [PyData.depth]; omega⟩
end Rm
/-! Rm, part G: calls with keywords, module tuples. -/
namespace Rm
open PySem PySem.Spec L2
open PyProof.Rows hiding St
section
variable {P : Program} {w : World} {K : PySem.W.Frag} {mg : Str → Option Value} {base : Heap}
/-- a module's tuple -/
def Cst (K : PySem.W.Frag) (mg : Str → Option Value) (x : Str) (xs : List V) : Prop := ∃ p, mg x = some (.ref p) ∧ ∀ H, SqT K H p xs
end
section
variable {X : Cx} {k n : Nat} {ks : List Str} {sp : Sp} {x : Str} {p pos : Pos} {e : Expr} {es : List Expr} {kws : List Keyword} {t tk : TA} {W : WX} {gV : List V → List V → List V}
/-- the tuple of the module's x -/
def tCst (K : PySem.W.Frag) (xs : List V) : TE := fun _ H Q => ∀ p, (∀ H, SqT K H p xs) → Q (.ref p) H
theorem pe_cst {xs : List V} (c : Cst X.K X.mg x xs) (hg : Gl X x := by rfl) (hd : (x == ("__debug__" : Str)) = false := by decide) : PE X (.Name x pos) (tCst X.K xs) := by
  obtain ⟨q, e, h⟩ := c
  exact ⟨fun pins s σ H Q I z => (pe_glob (v := .ref q) (pos := pos) hg e (show RelV (.ref q) (.ref q) from rfl) hd).run pins s σ H Q I (z q h)⟩
end
/-- an expression that gives a tuple of xs -/
structure PC (X : Cx) (b : Expr) (xs : List V) (g : Hp → (Hp → Prop) → Prop) : Prop where
  ev : PE X b (fun _ H Q => g H fun H' => ∀ p, SqT X.K H' p xs → Q (.ref p) H')
/-- x in a written tuple of plain items -/
def tInC (neg : Bool) (xs : List V) (g : Hp → (Hp → Prop) → Prop) (te : TE) : TE := fun σ H Q => te σ H fun v H1 => flatV v = true ∧ xs.all flatV = true ∧ g H1 fun H2 => Q (.bl (if neg then !inV v xs else inV v xs)) H2
/-- it leaves the heap as it is -/
def gC : Hp → (Hp → Prop) → Prop := fun H q => q H
section
variable {X : Cx} {x : Str} {e b : Expr} {te : TE} {p pos : Pos} {xs : List V} {g : Hp → (Hp → Prop) → Prop}
theorem pc_cst (c : Cst X.K X.mg x xs) (hg : Gl X x := by rfl) (hd : (x == ("__debug__" : Str)) = false := by decide) : PC X (.Name x pos) xs gC :=
  ⟨PE.imp (pe_cst c hg hd) fun σ H Q h p hp => h p (hp H)⟩
theorem pe_inC (he : PE X e te) (c : PC X b xs g) (gm : ∀ {H : Hp} {q r : Hp → Prop}, (∀ H, q H → r H) → g H q → g H r) (hm : behindInMarks .In b = false := by rfl) : PE X (.Compare e [.In] [b] pos) (tInC false xs g te) := by
  refine ⟨fun pins s σ H Q I h => wpAny_Compare1 (thn (he.run pins s σ H _ I h) fun v s1 z => ?_) hm⟩
  obtain ⟨x, H1, I1, r1, f1, f2, q⟩ := z
  refine thn (c.ev.run pins s1 σ H1 (fun y H2 => rIn X.K false x y H2 Q) I1 (gm (fun H2 q2 p hp => ⟨p, xs, rfl, Or.inr hp, f1, f2, q2⟩) q)) fun u s2 z => ?_
  obtain ⟨y, H2, I2, r2, q2⟩ := z
  exact op_in_seq pins s2 σ H2 x y v u Q I2 r1 r2 q2
theorem gC_m {H : Hp} {q r : Hp → Prop} (h : ∀ H, q H → r H) (k : gC H q) : gC H r := h H k
end
end Rm
/-! Rm, part I: values and their data. -/
namespace Rm
open PySem PySem.Spec L2
open PyProof.Rows hiding St
theorem DrA.set {H : Hp} {w : V} {e : PyData} (he : Dr H w e) : ∀ {vs : List V} {ds : List PyData}, DrA H vs ds → ∀ i : Nat, DrA H (vs.set i w) (ds.set i e)
  | [], _, a, i => by cases a; exact .nil
  | v :: vs, _, a, i => by
    cases a with
    | cons h1 a =>
      cases i with
      | zero => exact .cons he a
      | succ i => exact .cons h1 (DrA.set he a i)
/-- the tape goes on, all else stands -/
structure Tp (t : Addr) (H H' : Hp) : Prop where
  a : TapeAt H t
  b : TapeAt H' t
  x : ∀ b o, b ≠ t → H b = some o → H' b = some o
section
variable {t : Addr} {H H0 H1 H2 : Hp}
theorem tape_some (h : TapeAt H t) : H t ≠ none := by
  obtain ⟨d, m, e, _⟩ := h
  rw [e]
  exact fun z => by cases z
theorem TapeAt.ext (h : TapeAt H t) (e : Ext H H1) : TapeAt H1 t := by
  obtain ⟨d, m, q, r⟩ := h
  exact ⟨d, m, e _ _ q, r⟩
theorem Tp.of_ext (h : TapeAt H t) (e : Ext H H1) : Tp t H H1 := ⟨h, h.ext e, fun b o _ z => e b o z⟩
theorem Tp.trans (p : Tp t H H1) (q : Tp t H1 H2) : Tp t H H2 := ⟨p.a, q.b, fun b o n z => q.x b o n (p.x b o n z)⟩
theorem Tp.none {b : Addr} (p : Tp t H H1) (h : H1 b = none) : H b = none := by
  cases q : H b with
  | none => rfl
  | some o =>
    by_cases n : b = t
    · subst n
      exact absurd h (tape_some p.b)
    · rw [p.x b o n q] at h
      cases h
theorem Tp.left (p : Tp t H0 H) (q : Tp t H H1) : Ext (newp H0 H) (newp H0 H1) := fun a o z => by
  obtain ⟨h1, h2, n⟩ := newp_some' z
  exact newp_of h1 (q.x a o (fun e => tape_some p.a (e ▸ h1)) h2) n
theorem Tp.right (p : Tp t H0 H) : Ext (newp H H1) (newp H0 H1) := fun a o z => by
  obtain ⟨h1, h2, n⟩ := newp_some' z
  exact newp_of (p.none h1) h2 n
theorem hid_mono {l : Addr} (h : Ext H H1) : Ext (hid l H) (hid l H1) := Ext.hid fun b o _ z => h b o z
theorem newp_hid1 {l : Addr} {o : HO} (h : H l = some o) : Ext (newp H H1) (hid l (newp H H1)) := fun a u z => by
  have := (newp_some z).1
  rw [hid_ne (fun e => by rw [e, h] at this; cases this)]
  exact z
theorem TapeAt.upd {p : Addr} {o : HO} (h : TapeAt H t) (n : p ≠ t) : TapeAt (upd H p o) t := by
  obtain ⟨d, m, q, r⟩ := h
  exact ⟨d, m, by rw [upd_ne (Ne.symm n)]; exact q, r⟩
end
end Rm
/-! Rm, part J: the readings of part C, case by case (printed by mkeq.py). -/
/-! Rm, part K: walks over whatever is at hand; comprehensions. -/
namespace Rm
open PySem PySem.Spec L2
open PyProof.Rows hiding St
/-- no exception leaves -/
def noW : WX := fun _ _ _ _ => False
theorem tkF {X : Cx} : Takes X noW := fun u s' x => by
  obtain ⟨_, _, _, _, _, _, _, _, _, _, _, _, _, _, _, _, z⟩ := x
  exact z.elim
/-- a list, a tuple or a text, walked -/
def iAny (K : PySem.W.Frag) (te : TE) : TI := fun σ H R => te σ H fun v H1 => match v with
  | .ref a => (match rdo H1 a with
    | some (.lst _) => R (Itl K a) H1
    | some (.tup _) => R (Itt K a) H1
    | _ => False)
  | .str z => R (Its z) H1
  | _ => False
theorem pi_any {X : Cx} {tg e : Expr} {te : TE} (he : PE X e te) : PI X tg e (iAny X.K te) := by
  refine ⟨fun pins s σ H R I h => thn (he.run pins s σ H _ I h) fun v s1 z => ?_⟩
  obtain ⟨y, H1, I1, r1, q⟩ := z
  split at q
  · obtain rfl := (show v = Value.ref _ from r1)
    split at q
    · rename_i e
      obtain ⟨its, rv, p, _⟩ := I1.list (rdo_l e)
      exact wpAny_pyIter_list p.isList (pi_one (tk := s1.toks) I1 _ (turn_list _ _) ⟨_, Heap.get?_push_size _ rfl, rfl, rfl⟩ q)
    · rename_i e
      obtain ⟨its, rv, p, _⟩ := I1.tuple (rdo_t e)
      exact wpAny_pyIter_tuple (show s1.heap.IsTuple _ its.toArray from p) (pi_one (tk := s1.toks) I1 _ (turn_tuple _ _) ⟨_, Heap.get?_push_size _ rfl, rfl, rfl⟩ q)
    · exact q.elim
  · rename_i z
    obtain ⟨t, rfl⟩ := r1
    cases ha : z.cps.all (· < 128)
    · exact wpAny_pyIter_wide ha (pi_one (tk := s1.toks) I1 _ (turn_str _ z t "str_iterator" (.inr rfl)) ⟨_, Heap.get?_push_size _ rfl, rfl, rfl⟩ q)
    · exact wpAny_pyIter_ascii ha (pi_one (tk := s1.toks) I1 _ (turn_str _ z t "str_ascii_iterator" (.inl rfl)) ⟨_, Heap.get?_push_size _ rfl, rfl, rfl⟩ q)
  · exact q.elim
/-! ### a list that is being made, apart from all else -/
structure LstI (t : Addr) (H0 : Hp) (l : Addr) (H : Hp) (xs : List V) (ds : List PyData) : Prop where
  p : Tp t H0 H
  n : H0 l = none
  at_ : H l = some (.lst xs)
  A : DrA (hid l (newp H0 H)) xs ds
section
variable {t l p : Addr} {H0 H H' : Hp} {xs ys : List V} {ds es : List PyData}
theorem LstI.lt (I : LstI t H0 l H xs ds) : l ≠ t := fun e => by
  subst e
  exact tape_some I.p.a I.n
theorem LstI.put (I : LstI t H0 l H xs ds) (A : DrA (hid l (newp H0 H)) ys es) : LstI t H0 l (upd H l (.lst ys)) ys es := by
  refine ⟨⟨I.p.a, I.p.b.upd I.lt, fun b o n e => ?_⟩, I.n, upd_same, DrA.ext (fun b o e => ?_) A⟩
  · have : b ≠ l := fun q => by rw [q, I.n] at e; cases e
    rw [upd_ne this]
    exact I.p.x b o n e
  · obtain ⟨n, e⟩ := hid_some e
    obtain ⟨h1, h2, h3⟩ := newp_some' e
    rw [hid_ne n]
    exact newp_of h1 (by rw [upd_ne n]; exact h2) h3
/-- a new list of such items -/
theorem LstI.fresh (I : LstI t H0 l H xs ds) (hp : H p = none) (A : DrA (hid l (newp H0 H)) ys es) : LstI t H0 p (upd H p (.lst ys)) ys es := by
  have q := I.p.trans (Tp.of_ext I.p.b (Ext.new (o := .lst ys) hp))
  refine ⟨q, I.p.none hp, upd_same, DrA.ext (fun b o e => ?_) A⟩
  obtain ⟨n, e⟩ := hid_some e
  obtain ⟨h1, h2, h3⟩ := newp_some' e
  have n2 : b ≠ p := ne_of_none h2 hp
  rw [hid_ne n2]
  exact newp_of h1 (by rw [upd_ne n2]; exact h2) h3
/-- a datum made behind, within -/
theorem LstI.new {v : V} {d : PyData} (I : LstI t H0 l H xs ds) (q : Tp t H H') (h : Dr (newp H H') v d) : Dr (hid l (newp H0 H')) v d := Dr.ext ((newp_hid1 I.at_).trans (hid_mono I.p.right)) h
theorem LstI.rd (I : LstI t H0 l H xs ds) : rdo H l = some (.lst xs) := rdo_of I.at_ (fun _ _ z => nomatch z)
theorem LstI.dr (I : LstI t H0 l H xs ds) : Dr (newp H0 H) (.ref l) (.list ds) := .lst (rdo_of (newp_of I.n I.at_) (fun _ _ z => nomatch z)) (DrA.ext Ext.hid_in I.A)
theorem LstI.len (I : LstI t H0 l H xs ds) : xs.length = ds.length := I.A.length
/-- the tuple of its items -/
theorem LstI.tup (I : LstI t H0 l H xs ds) (hp : H p = none) : Tp t H0 (upd H p (.tup xs)) ∧ Dr (newp H0 (upd H p (.tup xs))) (.ref p) (.tuple ds) := by
  have q := Tp.of_ext (H1 := upd H p (.tup xs)) I.p.b (Ext.new hp)
  exact ⟨I.p.trans q, .tup (rdo_of (newp_of (I.p.none hp) upd_same) (fun _ _ z => nomatch z)) (DrA.ext (I.p.left q) (DrA.ext Ext.hid_in I.A))⟩
end
theorem DrA.ins {H : Hp} {w : V} {e : PyData} (he : Dr H w e) : ∀ {vs : List V} {ds : List PyData}, DrA H vs ds → ∀ i : Nat, DrA H (vs.take i ++ [w] ++ vs.drop i) (ds.take i ++ [e] ++ ds.drop i)
  | [], _, a, i => by cases a; simp; exact .cons he .nil
  | v :: vs, _, a, i => by
    cases a with
    | cons h1 a =>
      cases i with
      | zero => exact .cons he (.cons h1 a)
      | succ i => exact .cons h1 (DrA.ins he a i)
theorem DrA.rep {H : Hp} {vs : List V} {ds : List PyData} (h : DrA H vs ds) : ∀ n : Nat, DrA H (List.replicate n vs).flatten (List.replicate n ds).flatten
  | 0 => .nil
  | n + 1 => by
    rw [List.replicate_succ, List.replicate_succ, List.flatten_cons, List.flatten_cons]
    exact h.append (DrA.rep h n)
end Rm
/-! Rm, part H: the law's end (repr allowed, the script's bits known). -/
namespace Rm
open PySem PySem.Spec L2
open PyProof.Rows hiding St
/-- what stands before a law's call -/
structure Before (P : Program) (w : World) (K : PySem.W.Frag) (mg mb : Str → Option Value) (s : Shared) (a : Addr) (vs : List Value) (ns : List Int) : Prop where
  kin : K.In s.heap
  nm : s.heap.Ns mainGlobals mg
  nb : s.heap.Ns builtinsNs mb
  bb : ∀ x : Str, x ≠ "__name__" → mb x = bootBuiltins x
  lim : s.heap.NoLimit
  gens : s.gens = #[]
  obj : s.heap.get? a = some { cls := .type "list", data := .seq vs.toArray }
  hi : IntsAre vs ns
  len : ns.length ≤ sizeLine
/-- the abstract heap there: at most the script -/
structure Start (P : Program) (w : World) (K : PySem.W.Frag) (s : Shared) (a : Addr) (ns : List Int) (H : Hp) : Prop where
  only : Only H
  sq : SqL K H a (ns.map V.int)
  ok : HOk P w H s.heap
  at_ : ∀ b, b ≠ a → H b = none
  out : H a ≠ none → K.lookup a = none
variable {P : Program} {w : World} {K : PySem.W.Frag} {mg mb : Str → Option Value} {s : Shared} {a : Addr} {vs : List Value} {ns : List Int} {H : Hp}
theorem Before.start (B : Before P w K mg mb s a vs ns) : ∃ H, Start P w K s a ns H := by
  have hv := vals_ints B.hi
  cases q : K.lookup a with
  | some o =>
    have e := (B.kin a o q).symm.trans B.obj
    injection e with e
    subst e
    have lv := B.hi.length
    have sz : vs.toArray.size ≤ sizeLine := by
      have := B.len
      rw [List.size_toArray]
      omega
    exact ⟨fun _ => none, fun _ => Or.inl rfl, Or.inr ⟨_, _, _, q, rfl, rfl, rfl, sz, hv⟩, fun b u z => by injection z, fun _ _ => rfl, fun z => (z rfl).elim⟩
  | none =>
    let o : Obj := { cls := .type "list", data := .seq vs.toArray }
    have hs : upd (fun _ => none) a (.frz o (.lst (ns.map V.int))) a = some (.frz o (.lst (ns.map V.int))) := upd_same
    refine ⟨upd (fun _ => none) a (.frz o (.lst (ns.map V.int))), fun b => ?_, Or.inl (Or.inr ⟨o, hs⟩), fun b u z => ?_, fun b hb => upd_ne hb, fun _ => q⟩
    · by_cases hb : b = a
      · subst hb
        exact Or.inr ⟨_, _, hs⟩
      · exact Or.inl (upd_ne hb)
    · by_cases hb : b = a
      · subst hb
        injection hs.symm.trans z with z
        subst z
        refine ⟨B.obj, ?_, vs, _, hv, B.obj⟩
        rw [List.length_map]
        exact B.len
      · rw [upd_ne hb] at z
        injection z
theorem Start.env (S : Start P w K s a ns H) (B : Before P w K mg mb s a vs ns) : K.In (hidT s.heap H) ∧ (hidT s.heap H).Ns mainGlobals mg ∧ Env0 P w K mg (hidT s.heap H) callerA [] s H := by
  have plain : ∀ {b : Addr} {o : Obj} {es : Array DictEntry} {n : Nat}, s.heap.get? b = some o → o.data = .dict es n → (hidT s.heap H).get? b = some o := fun {b o es n} e d => by
    by_cases hb : b = a
    · subst hb
      injection e.symm.trans B.obj with e
      subst e
      injection d
    · exact hidT_get e (S.at_ b hb)
  have nsOf : ∀ {b : Addr} {m : Str → Option Value}, s.heap.Ns b m → (hidT s.heap H).Ns b m := fun {b m} z => by
    obtain ⟨o, es, n, e, d, r⟩ := z
    exact ⟨o, es, n, plain e d, d, r⟩
  have kb : K.In (hidT s.heap H) := fun b o e => by
    refine hidT_get (B.kin b o e) ?_
    by_cases hb : b = a
    · subst hb
      refine Classical.byContradiction fun z => ?_
      have := S.out z
      rw [e] at this
      injection this
    · exact S.at_ b hb
  obtain ⟨mc, l1, l2⟩ := B.lim
  refine ⟨kb, nsOf B.nm, ⟨rfl, ⟨kb, nsOf B.nm, ⟨mb, nsOf B.nb, B.bb⟩, ⟨mc, nsOf l1, l2⟩⟩, fun _ _ e => of_hidT e, Nat.le_of_eq (hidT_size _ _), trivial, fun b hb => ?_, S.ok, .of_eq B.gens⟩⟩
  exact absurd (show b ∈ ([] : List Addr) from hb) List.not_mem_nil
theorem Start.end_ (S : Start P w K s a ns H) {v : V} {u : Value} {H' : Hp} {h' : Heap} (un : Un (frs []) [] H H' s.heap h') (ok : HOk P w H' h') : OldK s.heap h' := OldK.of_keep fun b o e => by
  rcases S.only b with z | ⟨ob, xs, z⟩
  · exact un.keep b o e z (fun q => by cases q) (by simp)
  · obtain ⟨e1, _⟩ := S.ok b _ z
    obtain ⟨e2, _⟩ := ok b _ (un.frzs b ob _ z)
    injection e.symm.trans e1 with e
    subst e
    exact e2
theorem cx_none {outer : List Env} {e : Value} {s' : Shared} (h : L2.CX P w outer H s L2.E0 e s') : False := by
  obtain ⟨_, _, _, _, _, _, _, _, _, _, _, _, z⟩ := h
  exact z
theorem law_callG {k : Nat} {fa : Addr} {fd : FuncData} {x : Str} {sp : Sp} (B : Before P w K mg mb s a vs ns) (hr : Room k callerA) (F : ∀ base : Heap, K.In base → base.Ns mainGlobals mg → FnG P w K mg base (L2.CX P w) k fa fd [x] sp)
    (hb : ∀ (s : Shared) (u : Value), BindsTo s fd ⟨[u], []⟩ [(x, u)]) (hsp : ∀ H : Hp, Only H → SqL K H a (ns.map V.int) → sp [.ref a] H (fun v _ => v = .bl true) L2.E0) :
    codeAny (model P w) callerA (.call (.ref fa) ⟨[.ref a], []⟩) (fun r s' => r = .ok (.ret (.bool true)) ∧ OldK s.heap s'.heap ∧ s'.os = s.os ∧ AllBare s'.gens) s := by
  obtain ⟨H, S⟩ := B.start
  obtain ⟨kb, nb, e0⟩ := S.env B
  refine codeAny_mono ((F _ kb nb).go callerA rfl hr [] s H ⟨[.ref a], []⟩ [.ref a] [.ref a] _ _ e0 (hb s (.ref a)) (.cons rfl .nil) (hsp H S.only S.sq)) fun r s' h => ?_
  match r, h with
  | .error e, h => exact (cx_none h).elim
  | .ok (.ret u), ⟨v, H', os, bare, un, ok, rv, q⟩ =>
    subst q
    have rv' : u = Value.bool true := rv
    subst rv'
    exact ⟨rfl, S.end_ (v := .non) (u := .none) un ok, os, bare⟩
  | .ok .next, h => cases h
  | .ok .brk, h => cases h
  | .ok .cont, h => cases h
/-- a law's row, from its def's promise -/
theorem walkG {l : PySem.W.OpenLaw} {n k : Nat} {q : Program} {loose : List Str} {XP : (Str → Option Value) → Heap → Prop} {YP : World → Heap → Prop} {d : DefRec} {x : Str}
    (hn : l.most = some n) (hn2 : n ≤ sizeLine) (hdf : d.params.defaults = []) (hr : Room k callerA)
    (F : ∀ (w : World) (mg : Str → Option Value) (fa : Addr) (h : Heap), YP w h → h.Ns mainGlobals mg → mg d.name = some (.ref fa) →
      ∃ (K : PySem.W.Frag) (fd : FuncData) (sp : Sp), K.In h ∧ (∀ (s : Shared) (u : Value), BindsTo s fd ⟨[u], []⟩ [(x, u)]) ∧
        (∀ (H : Hp) (a : Addr) (ns : List Int), ns.length ≤ n → (∀ z ∈ ns, Builtin.Int.intBits z ≤ 1048576) → Only H → SqL K H a (ns.map V.int) → sp [.ref a] H (fun v _ => v = .bl true) L2.E0) ∧
        ∀ base : Heap, K.In base → base.Ns mainGlobals mg → FnG l.prog w K mg base (L2.CX l.prog w) k fa fd [x] sp) :
    PySem.W.WalkO q loose XP YP l.row.toRowW d [] (fun f vs => PySem.call f vs) := by
  refine Att.attach_callB hn hdf fun w s₀ s₁ mg mb fa o pm cd doc a vs ns G Y _ _ _ hmg hobj hints hlen hbits hg => ?_
  obtain ⟨K, fd, sp, kx, hb, hsp, hF⟩ := F w mg fa _ Y G.T.g hmg
  exact law_callG ⟨kx, G.T.g, G.T.b, G.T.builtins, G.T.nolimit, hg, hobj, hints, Nat.le_trans hlen hn2⟩ hr hF hb fun H hO hS => hsp H a ns hlen hbits hO hS
/-! ### what the head tells -/
theorem cst_of {K : PySem.W.Frag} {h : Heap} {mg : Str → Option Value} {x : Str} {vs : List He.Dv} (X : K.In h) (G : h.Ns mainGlobals mg) (c : (He.Fa.glo x).ok K = true) (t : He.tupB K x vs = true) : Cst K mg x (vs.map (He.Dv.v K)) := ⟨_, He.glo_ok X G c, He.tupB_ok t⟩
/-- a def, told by the head -/
theorem at_of {K : PySem.W.Frag} {h : Heap} {mg : Str → Option Value} {x : Str} {st : Stmt} {ps : List Str} {fd : FuncData} (X : K.In h) (G : h.Ns mainGlobals mg) (c : (He.Fa.glo x).ok K = true) (F : FunD K x x (defArgs st) (defBody st) (defScope st) [] [] (He.fAd K (x, none)) fd)
    (b : ∀ (kV doc pm : Value) (an : Option Addr) (cdv ct : Value) (us : List Value), us.length = ps.length → bindArgs (PySem.W.fnOf x x (defArgs st) (defBody st) (defScope st) .none kV doc pm an cdv ct) ⟨us, []⟩ = pure (ps.zip us)) : At K mg x x st ps (He.fAd K (x, none)) fd :=
  ⟨F, He.glo_ok X G c, FunD.bindsN F b⟩
end Rm
/-! Rm, part X: own errors whose __init__ says super().__init__(text); self.f = x. -/
namespace Rm
open PySem PySem.Spec L2
open PyProof.Rows hiding St
/-- what the head tells of such a class C over others over ValueError, its __init__ at fI -/
structure ErrC (P : Program) (K : PySem.W.Frag) (C fI cda cc : Addr) (F : NdefX.NF) (x : Str) : Prop where
  o : OexC K C
  lk : ∃ oc od osl kV doc pm an ct, K.lookup fI = some ⟨oc, od, .func (PySem.W.fnX F.name F.qual F.params F.body F.scope F.cl .none kV doc pm an (.ref F.c) ct), osl⟩
  cd : PySem.W.codeIn K (.ref F.c) F.qual = true
  code : ∃ ccl cdd vs ccs file tf, K.lookup F.c = some ⟨ccl, cdd, .fields vs, ccs⟩ ∧ vs[2]? = some (.str file tf) ∧ ((P.main.file : Str) == file) = true
  cl : F.cl = [(("__class__" : Str), cc)]
  cell : ∃ a b d, K.lookup cc = some ⟨a, b, .cell (some (.ref C)), d⟩
  cls : ∃ cd, PySem.W.clsIn K C = some cd
  self : PySem.W.mroIn K C (.ref C) = some true
  sup : PySem.W.nsIn K mainGlobals "super" = some none
  ini : PySem.W.ks_superIn K C C "__init__" = some (some (.builtin "ValueError.__init__"))
  ve : PySem.W.subIn K (.ref C) (.type "ValueError") = some true
  st : PySem.W.nsIn K cStatics "thirdparty.any" = some none
  xi : PySem.W.excInitIn K C [.type "ValueError", .type "Exception", .type "BaseException", .type "object"] "ValueError.__new__" = true
/-- the promise of such an __init__ -/
def spErr (C : Addr) (f : Str) : Sp := fun vs H Q _ => ∃ a v, vs = [.ref a, v] ∧ H a = some (exo a C none) ∧ ∀ d, H d = none → d ≠ a → Q .non (upd (upd H d (exd d [(f, v)])) a (exo a C (some d)))
/-- super().__init__(text), run: nothing of it is told -/
theorem sup_call {X : Cx} {pins : List (Addr × Obj)} {σ : St} {H : Hp} {s : Shared} {C a u : Addr} {rest : List Value} {A : Around} {E : Value → Shared → Prop} {Q : Value → Shared → Prop} (T : OexC X.K C)
    (xi : PySem.W.excInitIn X.K C [.type "ValueError", .type "Exception", .type "BaseException", .type "object"] "ValueError.__new__" = true) (I : Inv X pins σ H s) (e : H a = some (exo a C none)) (hu : s.heap.get? u = some (PySem.W.kxs_mw "ValueError.__init__" a))
    (hl : rest.length ≤ sizeLine) (h : ∀ s', Inv X pins σ H s' → Q .none s') : wpAny (model X.prog X.w) A (call (.ref u) rest) Q E s := by
  obtain ⟨nm, N', qn, bs, bm, hdct, sn, sub, ab, col, dd, k0, k1, k2, k3, k5, hC, hT⟩ := PySem.W.excInit_of I.kIn xi
  obtain ⟨t1, ho⟩ := exo_at I.hok e
  obtain ⟨hp, g, d, t, os⟩ := s
  have eu : upd H a (exo a C none) = H := by
    funext b
    by_cases hb : b = a
    · subst hb
      exact upd_same.trans e.symm
    · exact upd_ne hb
  refine wpAny_call <| codeAny_of_tree ?_
  show wpAny _ A.in1 (callAny (.ref u) { pos := rest, kw := [] }) _ _ _
  unfold callAny
  refine wpAny_bind <| wpAny_load hu ?_
  have k1' : (Value.type "method-wrapper" == Value.type "method" || Value.type "method-wrapper" == Value.type "builtin_function_or_method" || Value.type "method-wrapper" == Value.type "method-wrapper") = true := by decide
  simp only [PySem.W.kxs_mw, k1', if_true]
  refine PySem.W.KFB.if_so (by decide) <| wpAny_bind <| PySem.W.check_bound_init PySem.F.excBase_ValueError.toExcCallFacts hC ho rfl ?_
  refine wpAny_bind <| wpAny_pure <| wpAny_pure ⟨plainId_quiet PySem.F.excBase_ValueError.init.plain _, codeAny_builtin PySem.F.excBase_ValueError.initEntry ?_⟩
  refine PySem.W.exc_init_tree (cls := .ref C) (t0 := t1) (dv := none) (c2 := .none) (c3 := .none) (b4 := .bool false) ho hl fun h' k hx _ => ?_
  have J := I.write (t' := t) (x := a) (e := a) (o := exo a C none) (by rw [e]; trivial) (Or.inl rfl) k ⟨_, hx⟩ (exo_ok hx)
  rw [eu] at J
  exact h _ J
section
variable {P : Program} {w : World} {K : PySem.W.Frag} {mg : Str → Option Value} {base : Heap}
/-- such an __init__ keeps its promise -/
theorem boot_super : bootBuiltins "super" = some (.type "super") := by decide +kernel
theorem ok_err {cx : CXT} {C fI cda cc : Addr} {F : NdefX.NF} {x f : Str} {fd : FuncData} {m : Str} {j : Nat} {p0 p1 p2 p3 p4 p5 p6 p7 p8 p9 : Pos} {ar : Arg} (T : ErrC P K C fI cda cc F x) (hfd : ∃ oc od osl, K.lookup fI = some ⟨oc, od, .func fd, osl⟩)
    (S : NdefX.NScope ["self", x, "__class__"] ["self", x] ["__class__"] F.scope) (hks : F.scope.names.lookup ("super" : Str) = some .globalImplicit)
    (hb : F.body = [.Expr (.Call (.Attribute (.Call (.Name "super" p0) [] [] p1) "__init__" p2) [.Constant (.str m) j p3] [] p4) p5, .Assign [.Attribute (.Name "self" p6) f p7] (.Name x p8) p9])
    (hp : (F.params.posonlyargs ++ F.params.args).head? = some ar) (har : ar.arg = "self") (hno : PySem.W.findIn K (.ref C) f = some none) (htop : (P.main.scope.names.lookup ("super" : Str)).isSome = false) {pl : Addr → Sem Bool} (hx1 : (x == ("__debug__" : Str)) = false) (hx2 : (x == ("__classdict__" : Str)) = false)
    (hev : ∀ L : Addr, eval (.Call (.Attribute (.Call (.Name "super" p0) [] [] p1) "__init__" p2) [.Constant (.str m) j p3] [] p4) (NdefX.envF F fI L) = (do
      let ov ← attributeBase (.Call (.Name "super" p0) [] [] p1) "__init__" (NdefX.envF F fI L) (eval (.Call (.Name "super" p0) [] [] p1) (NdefX.envF F fI L))
      standAt p2.atName
      let (g, first) ← holding [ov] (getMethod ov "__init__" (pl L))
      callWith p4 g first (backTo p4 (starEach [.Constant (.str m) j p3] (NdefX.envF F fI L))) []))
    (hsw : ∀ L : Addr, swapsWith (.Call (.Attribute (.Call (.Name "super" p0) [] [] p1) "__init__" p2) [.Constant (.str m) j p3] [] p4) none p5.line (NdefX.envF F fI L) = pure false)
    (hin : ∀ L : Addr, interactive (NdefX.envF F fI L) = false)
    (hsw2 : ∀ L : Addr, swapsWith (.Name x p8) (some (.Attribute (.Name "self" p6) f p7)) p9.line (NdefX.envF F fI L) = pure false) :
    FnOk P w K mg base cx 1 fI fd ["self", x] (spErr C f) := by
  obtain ⟨oc0, od0, osl0, lk0⟩ := hfd
  obtain ⟨oc, od, osl, kV, doc, pm, an, ct, lk⟩ := T.lk
  have e1 := lk.symm.trans lk0
  injection e1 with e1
  injection e1 with _ _ e1 _
  injection e1 with e1
  subst e1
  refine ⟨fun vs H Q E h => by obtain ⟨_, _, rfl, _⟩ := h; rfl, fun A outer s H args us vs Q E hr e0 hbd r hsp => ?_⟩
  obtain ⟨a, v, rfl, ha, k⟩ := hsp
  cases r with
  | @cons _ u0 _ ur r0 r' =>
  cases r' with
  | @cons _ u1 _ ur r1 r' =>
  cases r'
  obtain rfl : u0 = Value.ref a := r0
  have kx : K.In s.heap := e0.mod.kin.keeps fun b o e => (e0.bs b o e).1
  have lim : s.heap.NoLimit := e0.mod.nolimit.keeps fun b o e => (e0.bs b o e).1
  obtain ⟨c0, c1, c3, lkc⟩ := T.cell
  have hcc : H cc = none := (e0.bs _ _ (e0.mod.kin _ _ lkc)).2
  have CA : NdefX.CellsAt F.cl ["__class__"] [some (.ref C)] s.heap H := by
    rw [T.cl]
    refine ⟨rfl, fun y c e => ?_, fun x y c h1 h2 => ?_, fun i y h => ?_⟩
    · have : c = cc := by
        simp only [List.lookup] at e
        split at e
        · injection e with e; exact e.symm
        · cases e
      subst this
      exact ⟨hcc, _, _, kx _ _ lkc, rfl⟩
    · simp only [List.lookup] at h1 h2
      split at h1
      · rename_i e1
        split at h2
        · rename_i e2
          exact (eq_of_beq e1).trans (eq_of_beq e2).symm
        · cases h2
      · cases h1
    · match i, h with
      | 0, h =>
        injection h with h
        subst h
        refine ⟨cc, by simp [List.lookup], fun v hv => ?_⟩
        injection hv with hv
        injection hv with hv
        subst hv
        exact ⟨.ref C, rfl, _, kx _ _ lkc, rfl⟩
      | i + 1, h => cases h
  refine codeAny_call_function hr.depth (kx _ _ lk) rfl S.co S.gen rfl (PySem.W.codeRec_of kx T.cd) (hbd _ _ _ _ ?_)
  refine wpAny_newFunctionEnv S.nocell (fun y hy => S.par y.1 (List.of_mem_zip hy).1) (fun h₁ hns hsb => ⟨lim.fresh _ hsb, ?_⟩) S.kind
  have kp : ∀ b o, s.heap.get? b = some o → h₁.get? b = some o := fun b o e => hsb.extBut b o (Nat.ne_of_lt (Heap.lt_size e)) (Heap.get?_push_of_some _ e)
  have I : L2.Inv (NdefX.ncx cx P w K mg base [("self" : Str), x, "__class__"] F fI A outer s H E) [] (NdefX.startF [("self" : Str), x, "__class__"] [.ref a, v] [some (.ref C)]) H { s with heap := h₁, toks := s.toks + ([("self" : Str), x].zip [Value.ref a, u1]).length } :=
    NdefX.inv_startN S hr.hd e0 rfl (.cons (show RelV (.ref a) (.ref a) from rfl) (.cons r1 .nil)) CA hns kp
  show codeAny _ _ (.func F.body (NdefX.envF F fI s.heap.objs.size)) _ _
  rw [hb]
  refine PySem.ks_codeAny_funcAt ?_
  refine PySem.ks_wpAt_execs_cons (PySem.ks_wpAt_Expr_any (PySem.ks_wpAt_MethodCall (pl := pl s.heap.objs.size) ?_ (hev _)) (hin _) (hsw _))
  obtain ⟨ccl, cdd, cvs, ccs, file, tf, lkd, hvs, hfile⟩ := T.code
  obtain ⟨cdC, hcd⟩ := T.cls
  have bk : ∀ b o, K.lookup b = some o → h₁.get? b = some o := fun b o e => kp _ _ (kx _ _ e)
  obtain ⟨oC, hC1, hC2⟩ : ∃ oC, h₁.get? C = some oC ∧ oC.data = .cls cdC := by
    unfold PySem.W.clsIn at hcd
    split at hcd
    · rename_i c d cd' sl ho
      injection hcd with hcd
      subst hcd
      exact ⟨_, bk _ _ ho, rfl⟩
    · cases hcd
  refine PySem.ks_wpAt_super_base (env := NdefX.envF F fI s.heap.objs.size) hks (S.frk _ (List.mem_singleton.mpr rfl)) (by decide) rfl (bk _ _ lk) rfl hp rfl (bk _ _ lkd) rfl hvs hfile htop ?_
  have hsl : mg "super" = none := PySem.W.mg_none_of e0.mod.kin e0.mod.glob T.sup
  obtain ⟨mb, hb1, hb2⟩ := e0.mod.blt
  have bb : ∀ b o, base.get? b = some o → h₁.get? b = some o := fun b o e => kp _ _ (e0.bs b o e).1
  refine PySem.W.ks_loadName_global S.kind hks (Calls.loadGlobal_builtin (e0.mod.glob.keeps bb) hsl (hb1.keeps bb) ((hb2 _ (by decide)).trans boot_super) ⟨rfl, ?_⟩)
  refine wpAny_loadName_free S.kind (S.frk _ (List.mem_singleton.mpr rfl)) (c := cc) (by show F.cl.lookup _ = _; rw [T.cl]; simp [List.lookup]) ⟨_, bk _ _ lkc, rfl⟩ ?_
  rw [har]
  refine wpAny_loadName_local S.kind (S.par _ List.mem_cons_self) hns (v := .ref a) ?_ ?_
  · have nd : [("self" : Str), x].Nodup := List.Nodup.sublist (List.take_sublist 2 [("self" : Str), x, "__class__"]) S.nd
    exact NdefX.zip_look (i := 0) nd rfl rfl
  refine PySem.ks_wpAny_isType_cls hC1 hC2 ⟨rfl, ?_⟩
  obtain ⟨t1, hoa⟩ := exo_at I.hok ha
  refine PySem.ks_wpAny_call_super hC1 hC2 hoa rfl (fun c e => by cases e) (PySem.W.looks_mroIn I.kIn T.self) fun h2 hso k2 => ?_
  have I2 := I.kept (t' := s.toks + ([("self" : Str), x].zip [Value.ref a, u1]).length) k2
  obtain ⟨lmro, hmro1, hmro2⟩ : ∃ l, cdC.mro = l ∧ PySem.W.alongIn K "__init__" ((l.dropWhile (· != .ref C)).drop 1) = some (some (.builtin "ValueError.__init__")) := by
    have z := T.ini
    unfold PySem.W.ks_superIn at z
    rw [hcd] at z
    exact ⟨_, rfl, z⟩
  have hne : a ≠ C := fun z => by
    rw [z, hC1] at hoa
    injection hoa with hoa
    rw [hoa] at hC2
    cases hC2
  refine PySem.W.kxs_getMethod PySem.W.kxs_ValueError hso (PySem.W.looks_opaque I2.kIn T.st) (l₀ := lmro) (by rw [← hmro1]; exact fun A Q E s k q => wpAny_bind ((PySem.W.looks_clsIn I2.kIn hcd) A _ E s k (wpAny_pure q))) rfl I2.kIn hmro2
    ((show PySem.W.InstAt h2 a ({ cls := .ref C, dict := none, data := .fields #[.ref t1, .none, .none, .none, .bool false, .none] } : Obj) C none from ⟨k2 _ _ hoa, rfl, rfl, trivial⟩).type.andThen (PySem.W.looks_subIn I2.kIn T.ve)) hne (by decide) ?_
  have hmw : (h2.push (PySem.W.kxs_mw "ValueError.__init__" a)).get? h2.objs.size = some (PySem.W.kxs_mw "ValueError.__init__" a) := Heap.get?_push_at rfl rfl
  have I3 := I2.kept (t' := s.toks + ([("self" : Str), x].zip [Value.ref a, u1]).length + 1) (h' := h2.push (PySem.W.kxs_mw "ValueError.__init__" a)) (fun b o e => Heap.get?_push_of_some _ e)
  have nfree : H h2.objs.size = none := I2.hok.fresh (Nat.le_refl _)
  have I4 := I3.pins_of (pins' := [(h2.objs.size, PySem.W.kxs_mw "ValueError.__init__" a)]) fun p hp => by
    rw [List.mem_singleton.mp hp]
    exact ⟨hmw, nfree, (Nat.ne_of_lt I2.lt).symm, I2.nofs (Nat.le_refl _), fun v z => by cases z⟩
  refine PySem.W.kxs_callWith (i := "ValueError.__init__") (x := a) rfl (Calls.evalArgs_plain ?_)
  refine thn ((pa_cons (X := NdefX.ncx cx P w K mg base [("self" : Str), x, "__class__"] F fI A outer s H E) (pe_str (x := m) (j := j) (pos := p3)) pa_nil).run p4 _ _ _ H (fun vs H1 => H1 = H ∧ vs.length ≤ 1000) I4 ⟨rfl, by show 1 ≤ 1000; decide⟩) fun us s1 z => ?_
  obtain ⟨vs, H1, I5, r5, rfl, l5⟩ := z
  have hu5 := (I5.pin _ (List.mem_append_right _ (List.mem_singleton.mpr rfl))).1
  refine ⟨hu5, sup_call T.o T.xi I5 ha hu5 (by show us.length ≤ sizeLine; rw [← r5.length]; exact Nat.le_trans l5 (by decide)) fun s6 I6 => ?_⟩
  refine ks_wpAt_execs_cons (wpAt_of_wpAny ?_)
  have hst := (ps_ost (X := NdefX.ncx cx P w K mg base [("self" : Str), x, "__class__"] F fI A outer s H1 E) (f := f) (p' := p7) (pos := p9) (pn 0 (pos := p6) rfl (Or.inl (S.par _ List.mem_cons_self)) (by decide) (by decide)) (pn 1 (pos := p8) rfl (Or.inl (S.par _ (List.mem_cons_of_mem _ List.mem_cons_self))) hx1 hx2) (hsw2 _)).run
    _ s6 _ H1 { nx := fun _ H' => Q .non H', rt := fun _ _ => False, bk := fun _ _ => False, ct := fun _ _ => False } I6 ⟨a, C, rfl, T.o, hno, Or.inl ⟨ha, fun dx hd hn => k dx hd hn⟩⟩
  refine wpAny_mono hst (fun fl s' z => ?_) (fun e s' z => z)
  cases fl with
  | next =>
    obtain ⟨σ', H', J, q⟩ := z
    refine wpAt_of_wpAny ?_
    rw [execs_nil]
    exact wpAny_pure ⟨V.non, H', J.os, J.bare, J.base, J.hok, rfl, q⟩
  | ret u => obtain ⟨_, _, _, _, _, q⟩ := z; exact q.elim
  | brk => obtain ⟨_, _, _, q⟩ := z; exact q.elim
  | cont => obtain ⟨_, _, _, q⟩ := z; exact q.elim
end
end Rm
/-! Rm, part M: own classes: fields, methods, constructors, properties, errors. -/
namespace Rm
open PySem PySem.Spec L2
open PyProof.Rows hiding St
section
variable (P : Program) (w : World) (K : PySem.W.Frag) (mg : Str → Option Value) (base : Heap)
/-- the method m of the class at C -/
structure MDef (C : Addr) (m : Str) (ps : List Str) (k : Nat) (sp : Sp) : Prop where
  ex : ∃ (f : Addr) (fd : FuncData), Cls K C ∧ Meth K C m f ∧ Binds K fd ps [] ∧ FnOk P w K mg base (L2.CX P w) k f fd ps sp
/-- the class x at C and its __init__ -/
structure CDef (x : Str) (C : Addr) (ps : List Str) (k : Nat) (sp : Sp) : Prop where
  ex : ∃ (f : Addr) (fd : FuncData), mg x = some (.ref C) ∧ Mk K C f ∧ Binds K fd ps [] ∧ FnOk P w K mg base (L2.CX P w) k f fd ps sp
end
/-- C(e, ..) -/
def tCS (C : Addr) (sp : Sp) (W : WX) (t : TA) : TE := fun σ H Q => t σ H fun vs H1 => ∀ x dx, H1 x = none → H1 dx = none → dx ≠ x →
  sp (.ref x :: vs) (upd (upd H1 dx (.own x)) x (.ins C dx [])) (fun v H2 => v = .non ∧ Q (.ref x) H2) (WE W σ)
/-- o.f -/
def tF (C : Addr) (f : Str) (to : TE) : TE := fun σ H Q => to σ H fun x H1 => match x with
  | .ref a => (match H1 a with
    | some (.ins C' _ fs) => C' = C ∧ (match fs.lookup f with
      | some v => Q v H1
      | none => False)
    | _ => False)
  | _ => False
/-- o.f = e -/
def tSF (C : Addr) (f : Str) (to te : TE) : TS := fun D σ H => te σ H fun y H1 => to σ H1 fun x H2 => match x with
  | .ref a => (match H2 a with
    | some (.ins C' dx fs) => (C' = C ∧ fs.length < 1000) ∧ D.nx σ (upd H2 a (.ins C dx (putF f y fs)))
    | _ => False)
  | _ => False
section
variable {X : Cx} {k : Nat} {ps : List Str} {sp : Sp} {x m f : Str} {p p' pos apos : Pos} {o e : Expr} {es : List Expr} {t : TA} {to te : TE} {W : WX} {C : Addr}
theorem pe_f (c : Cls X.K C) (n : NoAttr X.K C f) (ho : PE X o to) (hb : attributeBase o f X.env (eval o X.env) = eval o X.env := by rfl) : PE X (.Attribute o f pos) (tF C f to) := by
  refine ⟨fun pins s σ H Q I h => ?_⟩
  have h2 : tF C f to σ H Q := h
  refine attr_of hb (thn (ho.run pins s σ H _ I h2) fun u s1 z => ?_)
  obtain ⟨y, H1, I1, ry, q⟩ := z
  split at q
  · rename_i a
    obtain rfl := (show u = Value.ref a from ry)
    split at q
    · rename_i C' dx fs ea
      obtain ⟨rfl, q⟩ := q
      split at q
      · rename_i v l
        exact getattr_ok I1 ea c n l fun u' s2 I2 ru => ⟨v, H1, I2, ru, q⟩
      · exact q.elim
    · exact q.elim
  · exact q.elim
theorem ps_f (c : Cls X.K C) (n : NoAttr X.K C f) (ho : PE X o to) (he : PE X e te) (hs : swapsWith e (some (.Attribute o f p')) pos.line X.env = pure false := by rfl) : PS X (.Assign [.Attribute o f p'] e pos) (tSF C f to te) := by
  refine ⟨fun pins s σ H D I h => ?_⟩
  have h2 : tSF C f to te D σ H := h
  refine plainObj_wpAny_Assign_Attribute (thn (he.run pins s σ H _ I h2) fun v s1 z => ?_) hs
  obtain ⟨y, H1, I1, r1, q1⟩ := z
  refine thn (ho.run pins s1 σ H1 _ I1 q1) fun u s2 z => ?_
  obtain ⟨x, H2, I2, r2, q⟩ := z
  split at q
  · rename_i a
    obtain rfl := (show u = Value.ref a from r2)
    split at q
    · rename_i C' dx fs ea
      obtain ⟨⟨rfl, hl⟩, q⟩ := q
      exact setattr_ok I2 ea c n hl r1 fun s3 I3 => ⟨σ, _, I3, q⟩
    · exact q.elim
  · exact q.elim
/-- C(e, ..), its __init__ may raise -/
theorem run_C {pins : List (Addr × Obj)} {σ : St} {H : Hp} {s : Shared} {Q : VK} {us : List Value} {vs : List V} {f : Addr} {fd : FuncData} (M : Mk X.K C f) (F : FnOk X.prog X.w X.K X.mg X.base (L2.CX X.prog X.w) k f fd ps sp) (hr : Room (k + 1) X.A) (hb : Binds X.K fd ps []) (tk : Takes X W) (I : Inv X pins σ H s) (r : Vals vs us)
    (h : ∀ x dx, H x = none → H dx = none → dx ≠ x → sp (.ref x :: vs) (upd (upd H dx (.own x)) x (.ins C dx [])) (fun v H2 => v = .non ∧ Q (.ref x) H2) (WE W σ)) : wpAny (model X.prog X.w) X.A (call (.ref C) us) (EP X pins σ Q) X.xe s := by
  have n0 : s.heap.objs.size ≠ s.heap.objs.size + 1 := by omega
  have hq := h (s.heap.objs.size + 1) s.heap.objs.size (I.hok.fresh (Nat.le_succ _)) (I.hok.fresh (Nat.le_refl _)) n0
  have J := Inv.made (C := C) I
  have rr : Vals (V.ref (s.heap.objs.size + 1) :: vs) (Value.ref (s.heap.objs.size + 1) :: us) := .cons (show RelV (.ref _) (.ref _) from rfl) r
  have ll : (Value.ref (s.heap.objs.size + 1) :: us).length = ps.length := by rw [← F.len _ _ _ _ hq, rr.length]
  have b := hb _ (Value.ref (s.heap.objs.size + 1) :: us) J.kIn (by rw [List.append_nil]; exact ll)
  rw [List.append_nil] at b
  refine wpAny_call (make_map (f := f) I.kIn M.makes M.init (beq_iff_eq.mp M.fn) (codeAny_mono (F.run _ X.stack _ _ ⟨Value.ref (s.heap.objs.size + 1) :: us, []⟩ _ _ _ (WE W σ) (hr.make C us []) (J.env0.make C us []) b rr hq) fun r s' z => ?_))
  match r, z with
  | .error e, z => exact passAt tk σ pins _ _ e s' J z
  | .ok (.ret u), z =>
    obtain ⟨v, H', I3, rv, ev, q3⟩ := J.after z
    subst ev
    exact ⟨rv, V.ref (s.heap.objs.size + 1), H', I3, (show RelV (.ref _) (.ref _) from rfl), q3⟩
  | .ok .next, z => cases z
  | .ok .brk, z => cases z
  | .ok .cont, z => cases z
theorem pe_C (D : CDef X.prog X.w X.K X.mg X.base x C ps k sp) (hr : Room (k + 1) X.A) (tk : Takes X W) (ha : PA X (e :: es) t) (hg : Gl X x := by rfl) (hdb : (x == ("__debug__" : Str)) = false := by decide)
    (he : starEach (e :: es) X.env = (false, eval e X.env) :: starEach es X.env := by rfl) (hpl : (backTo pos (starEach es X.env)).any (·.1) = false := by rfl) : PE X (.Call (.Name x p) (e :: es) [] pos) (tCS C sp W t) := by
  obtain ⟨f, fd, hm, M, hb, F⟩ := D.ex
  refine ⟨fun pins s σ H Q I h => wpAny_Call_Name_kw (ld_glob I hg hm ?_ hdb)⟩
  refine PySem.W.callWith_K (h₀ := X.base) I.ok.mod.kin M.kp (thn (ha.run pos pins s σ H _ I h) fun us s1 z => ?_) he hpl
  obtain ⟨vs, H1, I1, r, q⟩ := z
  exact ⟨I1.kIn, run_C M F hr hb tk I1 r q⟩
end
/-! ### errors -/
section
variable (P : Program) (w : World) (K : PySem.W.Frag) (mg : Str → Option Value) (base : Heap)
/-- an own error x at C, its one field f -/
structure EDef (x : Str) (C : Addr) (f : Str) : Prop where
  ex : ∃ (fI : Addr) (fd : FuncData) (y : Str), mg x = some (.ref C) ∧ OexC K C ∧ PySem.W.findIn K (.ref C) "__init__" = some (some (.ref fI)) ∧ PySem.W.typeIn K (.ref fI) = some (.type "function") ∧ Binds K fd ["self", y] [] ∧
    FnOk P w K mg base CX0 1 fI fd ["self", y] (spErr C f)
  xf : XfC K C
  no : PySem.W.findIn K (.ref C) f = some none
end
/-- C(v) made to be raised -/
def kErr (C : Addr) (f : Str) (v : V) (H1 : Hp) (W : XK) : Prop := [v].length ≤ 1000 ∧ ∀ a, H1 a = none → spErr C f (.ref a :: ([v] ++ [])) (upd H1 a (exo a C none))
  (fun u H2 => u = .non ∧ ∃ (d : Addr) (fs : List (Str × V)), H2 a = some (exo a C (some d)) ∧ H2 d = some (exd d fs) ∧ H1 d = none ∧ W (.ref C) (some d) (upd (del H2 a) d (.xd fs))) (fun _ _ _ => False)
def tErr (C : Addr) (f : Str) (te : TE) : St → Hp → XK → Prop := fun σ H W => te σ H fun v H1 => kErr C f v H1 W
theorem kErr_of {C : Addr} {f : Str} {v : V} {H1 : Hp} {W : XK} (h : ∀ d, H1 d = none → W (.ref C) (some d) (upd H1 d (.xd [(f, v)]))) : kErr C f v H1 W := by
  refine ⟨by show 1 ≤ 1000; decide, fun a ha => ⟨a, v, rfl, upd_same, fun d hd hda => ⟨rfl, d, [(f, v)], upd_same, ?_, ?_, ?_⟩⟩⟩
  · rw [upd_ne hda, upd_same]
  · rwa [upd_ne hda] at hd
  · rw [upd_ne hda] at hd
    have e : upd (del (upd (upd (upd H1 a (exo a C none)) d (exd d [(f, v)])) a (exo a C (some d))) a) d (.xd [(f, v)]) = upd H1 d (.xd [(f, v)]) := by
      funext b
      by_cases hb : b = d
      · rw [hb, upd_same, upd_same]
      · rw [upd_ne hb, upd_ne hb]
        by_cases hba : b = a
        · rw [hba, del_same, ha]
        · rw [del_ne hba, upd_ne hba, upd_ne hb, upd_ne hba]
    rw [e]
    exact h d hd
section
variable {X : Cx} {x f : Str} {p p' pos : Pos} {e : Expr} {te : TE} {C : Addr} {W : WX}
theorem pmk_err (D : EDef X.prog X.w X.K X.mg X.base x C f) (hr : Room 2 X.A) (he : PE X e te) (hg : Gl X x := by rfl) (hdb : (x == ("__debug__" : Str)) = false := by decide) (hst : starEach [e] X.env = (false, eval e X.env) :: starEach [] X.env := by rfl)
    (hpl : (backTo pos (starEach [] X.env)).any (·.1) = false := by rfl) : PMk X (.Call (.Name x p) [e] [] pos) (tErr C f te) := by
  obtain ⟨fI, fd, y, hm, T, hi, ht, hb, F⟩ := D.ex
  exact pmk_oex (ps := ["self", y]) (pos := pos) (p := p) T hi ht F hr hb .nil pass0 hg hm (pa_cons he pa_nil hst) hdb hst hpl
/-- raise C(e) -/
theorem ps_err (D : EDef X.prog X.w X.K X.mg X.base x C f) (hc : X.calm = true) (hr : Room 2 X.A) (tk : Takes X W) (he : PE X e te) (hg : Gl X x := by rfl) (hdb : (x == ("__debug__" : Str)) = false := by decide) (hst : starEach [e] X.env = (false, eval e X.env) :: starEach [] X.env := by rfl)
    (hpl : (backTo pos (starEach [] X.env)).any (·.1) = false := by rfl) : PS X (.Raise (some (.Call (.Name x p) [e] [] pos)) none p') (fun _ σ H => tErr C f te σ H fun cls d H' => W cls d σ H') := ps_raise hc tk (pmk_err D hr he hg hdb hst hpl)
end
end Rm
/-! Rm, part N: what a head tells of own errors. -/
namespace Rm
open PySem PySem.Spec L2
open PyProof.Rows hiding St
abbrev veMro : List Value := [.type "ValueError", .type "Exception", .type "BaseException", .type "object"]
def errClsB (K : PySem.W.Frag) (C : Addr) : Bool := match K.lookup C with
  | some ⟨.type t, _, .cls cd, sl⟩ => decide (t = "type") && (match cd.mro, sl.toList with
    | .ref C' :: bm, [_, _, _, _, some (.builtin n), _] => decide (C' = C) && (decide (n = "ValueError.__new__") && (!cd.hasDel && (cd.hasDict && PySem.HandSPX.refsVE bm)))
    | _, _ => false)
  | _ => false
theorem errCls_of {K : PySem.W.Frag} {C : Addr} (h : errClsB K C = true) :
    ∃ nm q N bs bm sn sub ab col dd k0 k1 k2 k3 k5, K.lookup C = some (excClassObj nm q C N bs bm true sn sub ab col dd k0 k1 k2 k3 k5 "ValueError.__new__") ∧ PySem.HandSPX.refsVE bm = true := by
  unfold errClsB at h
  split at h
  · rename_i t dd cd sl ho
    obtain ⟨h0, hh⟩ := Bool.and_eq_true_iff.mp h
    clear h
    have h0 := of_decide_eq_true h0
    subst h0
    split at hh
    · rename_i C' bm k0 k1 k2 k3 n k5 hm hs
      obtain ⟨h1, hh⟩ := Bool.and_eq_true_iff.mp hh
      obtain ⟨h2, hh⟩ := Bool.and_eq_true_iff.mp hh
      obtain ⟨h3, hh⟩ := Bool.and_eq_true_iff.mp hh
      obtain ⟨h4, h5⟩ := Bool.and_eq_true_iff.mp hh
      have h1 := of_decide_eq_true h1
      have h2 := of_decide_eq_true h2
      rw [Bool.not_eq_true'] at h3
      obtain ⟨nm, bs, mro, ns, qn, hd, sn, sub, ab, col, del⟩ := cd
      dsimp only at hm h3 h4
      obtain ⟨l⟩ := sl
      dsimp only at hs
      subst h1 h2 h3 h4 hm hs
      exact ⟨nm, qn, ns, bs, bm, sn, sub, ab, col, dd, k0, k1, k2, k3, k5, ho, h5⟩
    · cases hh
  · cases h
/-- an own error of the text: its name, field, parameter, its __init__ as it stands -/
structure ErrD where
  x : Str
  f : Str
  y : Str
  qual : Str
  st : Stmt
abbrev FnE : Type := Option (Str × Str × Arguments × FuncBody × Scope × Addr × List Str × Addr)
def ErrD.obs (K : PySem.W.Frag) (e : ErrD) : FnE := match K.lookup (He.ma K (He.ga K e.x) "__init__") with
  | some ⟨_, _, .func fd, _⟩ => some (fd.name, fd.qualname, fd.params, fd.body, fd.scope, fd.globals, fd.closure.map (·.1), fd.builtins)
  | _ => none
def ErrD.val (e : ErrD) : FnE := some ("__init__", e.qual, defArgs e.st, .stmts (defBody e.st), defScope e.st, mainGlobals, ["__class__"], builtinsNs)
def errFnB (P : Program) (K : PySem.W.Frag) (C fI : Addr) (qual : Str) : Bool := match K.lookup fI with
  | some ⟨_, _, .func fd, _⟩ => (match fd.code, fd.defaults, fd.closure with
    | .ref c, .none, [(_, cc)] => PySem.W.codeIn K (.ref c) qual && ((match K.lookup c with
      | some ⟨_, _, .fields vs, _⟩ => (match (vs[2]? : Option Value) with
        | some (.str file _) => (P.main.file : Str) == file
        | _ => false)
      | _ => false) && (match K.lookup cc with
      | some ⟨_, _, .cell (some (.ref C')), _⟩ => decide (C' = C)
      | _ => false))
    | _, _, _ => false)
  | _ => false
def ErrD.ok (P : Program) (K : PySem.W.Frag) (e : ErrD) : Bool :=
  He.eqO (PySem.W.nsIn K mainGlobals e.x) (some (some (.ref (He.ga K e.x)))) && (errClsB K (He.ga K e.x) && (errFnB P K (He.ga K e.x) (He.ma K (He.ga K e.x) "__init__") e.qual &&
  (He.eqO (PySem.W.findIn K (.ref (He.ga K e.x)) "__setattr__") (some (some (.builtin "object.__setattr__"))) && (decide (PySem.W.subIn K (.ref (He.ga K e.x)) (.type "BaseException") = some true) && (decide (PySem.W.typeIn K (.ref (He.ga K e.x)) = some (.type "type")) &&
  (PySem.W.keepIn K (.ref (He.ga K e.x)) && ((PySem.W.clsIn K (He.ga K e.x)).isSome && (decide (PySem.W.mroIn K (He.ga K e.x) (.ref (He.ga K e.x)) = some true) && (He.eqO (PySem.W.nsIn K mainGlobals "super") (some none) &&
  (He.eqO (PySem.W.ks_superIn K (He.ga K e.x) (He.ga K e.x) "__init__") (some (some (.builtin "ValueError.__init__"))) && (decide (PySem.W.subIn K (.ref (He.ga K e.x)) (.type "ValueError") = some true) && (He.eqO (PySem.W.nsIn K cStatics "thirdparty.any") (some none) &&
  (PySem.W.excInitIn K (He.ga K e.x) veMro "ValueError.__new__" && (He.eqO (PySem.W.findIn K (.ref (He.ga K e.x)) "__init__") (some (some (.ref (He.ma K (He.ga K e.x) "__init__")))) && (decide (PySem.W.typeIn K (.ref (He.ma K (He.ga K e.x) "__init__")) = some (.type "function")) &&
  (xfB K (He.ga K e.x) && He.eqO (PySem.W.findIn K (.ref (He.ga K e.x)) e.f) (some none)))))))))))))))))
theorem ErrD.told {P : Program} {K : PySem.W.Frag} {e : ErrD} (h : e.ok P K = true) (o : e.obs K = e.val) :
    ∃ cc c fd, ErrC P K (He.ga K e.x) (He.ma K (He.ga K e.x) "__init__") c cc ⟨"__init__", e.qual, defArgs e.st, defBody e.st, defScope e.st, [(("__class__" : Str), cc)], c⟩ e.y ∧ (∃ oc od osl, K.lookup (He.ma K (He.ga K e.x) "__init__") = some ⟨oc, od, .func fd, osl⟩) ∧
      (∃ kV doc pm an ct, fd = PySem.W.fnX "__init__" e.qual (defArgs e.st) (defBody e.st) (defScope e.st) [(("__class__" : Str), cc)] .none kV doc pm an (.ref c) ct) ∧ XfC K (He.ga K e.x) ∧ PySem.W.findIn K (.ref (He.ga K e.x)) e.f = some none ∧
      PySem.W.findIn K (.ref (He.ga K e.x)) "__init__" = some (some (.ref (He.ma K (He.ga K e.x) "__init__"))) ∧ PySem.W.typeIn K (.ref (He.ma K (He.ga K e.x) "__init__")) = some (.type "function") ∧ PySem.W.nsIn K mainGlobals e.x = some (some (.ref (He.ga K e.x))) := by
  unfold ErrD.ok at h
  simp only [Bool.and_eq_true] at h
  obtain ⟨b1, b2, b3, b4, b5, b6, b7, b8, b9, b10, b11, b12, b13, b14, b15, b16, b17, b18⟩ := h
  unfold errFnB at b3
  unfold ErrD.obs at o
  split at b3
  · rename_i oc od fd osl lk
    rw [lk] at o
    obtain ⟨n1, n2, n3, n4, n5, n6, n7, n8, n9, n10, n11, n12, n13, n14, n15⟩ := fd
    dsimp only at b3
    split at b3
    · rename_i c nm cc
      have o2 : (some (n1, n2, n3, n4, n5, n6, [nm], n15) : FnE) = (some (("__init__" : Str), e.qual, defArgs e.st, FuncBody.stmts (defBody e.st), defScope e.st, mainGlobals, [("__class__" : Str)], builtinsNs) : FnE) := o
      simp only [Option.some.injEq, Prod.mk.injEq, List.cons.injEq, and_true] at o2
      obtain ⟨h1, h2, h3, h4, h5, h6, h7, h9⟩ := o2
      subst h1 h2 h3 h4 h5 h6 h7 h9
      simp only [Bool.and_eq_true] at b3
      obtain ⟨c1, c2, c3⟩ := b3
      have code : ∃ ccl cdd vs ccs file tf, K.lookup c = some ⟨ccl, cdd, .fields vs, ccs⟩ ∧ vs[2]? = some (.str file tf) ∧ ((P.main.file : Str) == file) = true := by
        split at c2
        · rename_i ccl cdd vs ccs lc
          split at c2
          · rename_i file tf hv
            exact ⟨_, _, vs, _, file, tf, lc, hv, c2⟩
          · cases c2
        · cases c2
      have cell : ∃ a b d, K.lookup cc = some ⟨a, b, .cell (some (.ref (He.ga K e.x))), d⟩ := by
        split at c3
        · rename_i a b C' d lc
          have := of_decide_eq_true c3
          subst this
          exact ⟨_, _, _, lc⟩
        · cases c3
      refine ⟨cc, c, _, ⟨⟨errCls_of b2, He.eqO_ok b4, of_decide_eq_true b5, of_decide_eq_true b6, b7⟩, ⟨_, _, _, _, _, _, _, _, lk⟩, c1, code, rfl, cell, Option.isSome_iff_exists.mp b8, of_decide_eq_true b9, He.eqO_ok b10, He.eqO_ok b11, of_decide_eq_true b12, He.eqO_ok b13, b14⟩, ⟨_, _, _, lk⟩, ⟨_, _, _, _, _, rfl⟩, xfB_ok b17, He.eqO_ok b18, He.eqO_ok b15, of_decide_eq_true b16, He.eqO_ok b1⟩
    · cases b3
  · cases b3
end Rm
/-! Rm, part O: a head's Hook with own errors. -/
namespace Rm
open PySem PySem.Spec L2
open PyProof.Rows hiding St
abbrev AlE : Type := He.AlD × (Bool × List FnE)
def fragE (n : Nat) (g : Addr → Option Obj) : PySem.W.Frag := He.frG g (cStatics :: He.asD g n)
def lookE (P : Program) (fa : List He.Fa) (fn : List He.DefD) (es : List ErrD) (ex : PySem.W.Frag → Bool) (K : PySem.W.Frag) : AlE := (He.obsD fa fn K, (ex K && es.all fun e => e.ok P K, es.map fun e => e.obs K))
structure SaysE (P : Program) (fa : List He.Fa) (fn : List He.DefD) (es : List ErrD) (ex : PySem.W.Frag → Bool) (K : PySem.W.Frag) : Prop where
  d : He.SaysD fa fn K
  x : ex K = true
  ok : ∀ e ∈ es, e.ok P K = true
  ob : ∀ e ∈ es, e.obs K = e.val
theorem map_eq_mem {α β : Type} {f g : α → β} : ∀ {l : List α}, l.map f = l.map g → ∀ a ∈ l, f a = g a
  | [], _, a, h => by cases h
  | x :: r, e, a, h => by
    rw [List.map_cons, List.map_cons] at e
    injection e with e1 e2
    rcases List.mem_cons.mp h with rfl | h
    · exact e1
    · exact map_eq_mem e2 a h
theorem saysE_of {P : Program} {fa : List He.Fa} {fn : List He.DefD} {es : List ErrD} {ex : PySem.W.Frag → Bool} {K : PySem.W.Frag} (e : lookE P fa fn es ex K = (He.valD fn, (true, es.map ErrD.val))) : SaysE P fa fn es ex K := by
  have e1 := congrArg Prod.fst e
  have e2 := congrArg (fun z : AlE => z.2.1) e
  have e3 := congrArg (fun z : AlE => z.2.2) e
  obtain ⟨a, b⟩ := Bool.and_eq_true_iff.mp (show (ex K && es.all fun e => e.ok P K) = true from e2)
  exact ⟨e1, a, fun x h => List.all_eq_true.mp b x h, map_eq_mem e3⟩
end Rm
/-! Rm, part P: methods, told by the head. -/
namespace Rm
open PySem PySem.Spec L2
open PyProof.Rows hiding St
/-- a method as it stands behind the top -/
structure AtM (K : PySem.W.Frag) (C : Addr) (m x qual : Str) (st : Stmt) (ps : List Str) (f : Addr) (fd : FuncData) : Prop where
  fn : FunD K x qual (defArgs st) (defBody st) (defScope st) [] [] f fd
  c : Cls K C
  m : Meth K C m f
  b : Binds K fd ps []
/-- an `__init__` -/
structure AtI (K : PySem.W.Frag) (mg : Str → Option Value) (x : Str) (C : Addr) (m qual : Str) (st : Stmt) (ps : List Str) (f : Addr) (fd : FuncData) : Prop where
  fn : FunD K m qual (defArgs st) (defBody st) (defScope st) [] [] f fd
  mg : mg x = some (.ref C)
  c : Cls K C
  init : Mk K C f
  b : Binds K fd ps []
section
variable {P : Program} {w : World} {K : PySem.W.Frag} {mg : Str → Option Value} {base : Heap} {x m qual : Str} {st : Stmt} {C f : Addr} {fd : FuncData} {N ps : List Str} {k : Nat} {sp : Sp}
theorem okF (F : FunD K x qual (defArgs st) (defBody st) (defScope st) [] [] f fd) (S : FnScope N ps (defScope st)) (len : ∀ vs H Q E, sp vs H Q E → vs.length = ps.length)
    (hb : ∀ (cdv : Value) (A : Around) (outer : List Env) (s : Shared) (H : Hp) (vs : List V) (Q : VK) (E : XK), Room k (cxOf (L2.CX P w) P w K mg base N qual (defScope st) f cdv A outer s H E).A →
      Takes (cxOf (L2.CX P w) P w K mg base N qual (defScope st) f cdv A outer s H E) (fun cls d _ H => E cls d H) →
      PassesOwn (model P w) (cxOf (L2.CX P w) P w K mg base N qual (defScope st) f cdv A outer s H E).A (cxOf (L2.CX P w) P w K mg base N qual (defScope st) f cdv A outer s H E).env (cxOf (L2.CX P w) P w K mg base N qual (defScope st) f cdv A outer s H E).xe → sp vs H Q E →
      ∃ t, PSs (cxOf (L2.CX P w) P w K mg base N qual (defScope st) f cdv A outer s H E) (defBody st) t ∧ t { nx := fun _ H' => Q .non H', rt := Q } (start N vs) H) : FnOk P w K mg base (L2.CX P w) (k + 1) f fd ps sp :=
  F.ok S len fun cdv A outer s H vs Q E hr h => hb cdv A outer s H vs Q E hr (takes_of rfl rfl rfl rfl) (passes_of rfl) h
end
end Rm
/-! Rm, part Q: own objects under len, in, [], ==. -/
namespace Rm
open PySem PySem.Spec L2
open PyProof.Rows hiding St
theorem lk_hd {f : Str} {v : V} {r : List (Str × V)} : List.lookup f ((f, v) :: r) = some v := by
  rw [List.lookup_cons, beq_self_eq_true]
section
variable {X : Cx} {k : Nat} {ps : List Str} {sp : Sp} {x m : Str} {p p' pos apos : Pos} {o e : Expr} {es : List Expr} {t : TA} {to te : TE} {W : WX} {C f : Addr} {fd : FuncData}
theorem cxE0 {P : Program} {w : World} {outer : List Env} {H : Hp} {s : Shared} {e : Value} {s' : Shared} (h : L2.CX P w outer H s L2.E0 e s') : False := by
  obtain ⟨_, _, _, _, _, _, _, _, _, _, _, _, z⟩ := h
  exact z
theorem env_at {A : Around} {pins : List (Addr × Obj)} {σ : St} {H : Hp} {s : Shared} (hA : A.frames = X.A.frames) (I : Inv X pins σ H s) : Env0 X.prog X.w X.K X.mg X.base A X.stack s H := by
  have e := I.env0
  exact ⟨by rw [hA]; exact e.frames, e.mod, e.bs, e.bsz, e.funs, e.frf, e.hok, e.bare⟩
/-- a call below a builtin -/
theorem run_at {A : Around} {E : XK} {pins : List (Addr × Obj)} {σ : St} {H : Hp} {s : Shared} {Q : VK} {us : List Value} {vs : List V} (hA : A.frames = X.A.frames) (F : FnOk X.prog X.w X.K X.mg X.base (L2.CX X.prog X.w) k f fd ps sp) (hr : Room k A) (hb : Binds X.K fd ps [])
    (hx : ∀ e s', L2.CX X.prog X.w X.stack H s E e s' → X.xe e s') (I : Inv X pins σ H s) (r : Vals vs us) (h : sp vs H Q E) : wpAny (model X.prog X.w) A (call (.ref f) us) (EP X pins σ Q) X.xe s := by
  have hl : us.length = ps.length := by rw [← r.length]; exact F.len _ _ _ _ h
  have b := hb s us I.kIn (by rw [List.append_nil]; exact hl)
  rw [List.append_nil] at b
  refine wpAny_call (codeAny_mono (F.run A X.stack s H ⟨us, []⟩ us vs Q E hr (env_at hA I) b r h) fun r s' hq => ?_)
  cases r with
  | error e => exact hx e s' hq
  | ok fl =>
    cases fl with
    | ret u => exact I.after hq
    | next => exact False.elim hq
    | brk => exact False.elim hq
    | cont => exact False.elim hq
theorem run_at0 {A : Around} {pins : List (Addr × Obj)} {σ : St} {H : Hp} {s : Shared} {Q : VK} {us : List Value} {vs : List V} (hA : A.frames = X.A.frames) (F : FnOk X.prog X.w X.K X.mg X.base (L2.CX X.prog X.w) k f fd ps sp) (hr : Room k A) (hb : Binds X.K fd ps [])
    (I : Inv X pins σ H s) (r : Vals vs us) (h : sp vs H Q L2.E0) : wpAny (model X.prog X.w) A (call (.ref f) us) (EP X pins σ Q) X.xe s :=
  run_at hA F hr hb (fun _ _ z => (cxE0 z).elim) I r h
end
end Rm
/-! Rm, part V1: trees of values, what is one's own and what is frozen; the state of a def's frame. -/
namespace Rm
open PySem PySem.Spec L2
open PyProof.Rows hiding St
/-- a value as a tree; a list, a dict, an instance is one's own (true) or frozen -/
inductive T where
  | non | bl (b : Bool) | int (i : Int) | str (x : Str)
  | tup (ts : List T)
  | lst (o : Bool) (ts : List T)
  | dct (o : Bool) (ps : List (Key × T))
  /-- a dict whose keys are tuples -/
  | dtp (o : Bool) (ks : List (List Key)) (ts : List T)
  | ins (o : Bool) (C : Str) (fs : List (Str × T))
  /-- the script -/
  | scr (ts : List T)
/-- where classes stand; the dicts of exceptions that are caught -/
structure Ks where
  cl : Str → Addr
  xo : Addr → Option Addr
mutual
inductive Ow (ca : Ks) (H Z : Hp) : V → T → List Addr → Prop
  | non : Ow ca H Z .non .non []
  | bl (b : Bool) : Ow ca H Z (.bl b) (.bl b) []
  | int (i : Int) : Ow ca H Z (.int i) (.int i) []
  | str (x : Str) : Ow ca H Z (.str x) (.str x) []
  | tup {a : Addr} {xs : List V} {ts : List T} : Z a = some (.tup xs) → OwA ca H Z xs ts [] → Ow ca H Z (.ref a) (.tup ts) []
  | lstF {a : Addr} {xs : List V} {ts : List T} : Z a = some (.lst xs) → OwA ca H Z xs ts [] → Ow ca H Z (.ref a) (.lst false ts) []
  | lstO {a : Addr} {xs : List V} {ts : List T} {fp : List Addr} : H a = some (.lst xs) → OwA ca H Z xs ts fp → Ow ca H Z (.ref a) (.lst true ts) (a :: fp)
  | dctF {a : Addr} {ks : List (Key × V)} {ps : List (Key × T)} : rdo Z a = some (.dK ks) → ks.map (·.1) = ps.map (·.1) → OwA ca H Z (ks.map (·.2)) (ps.map (·.2)) [] → Ow ca H Z (.ref a) (.dct false ps) []
  | dctO {a : Addr} {ks : List (Key × V)} {ps : List (Key × T)} {fp : List Addr} : rdo H a = some (.dK ks) → ks.map (·.1) = ps.map (·.1) → OwA ca H Z (ks.map (·.2)) (ps.map (·.2)) fp → (ps.map (·.1)).Nodup → Ow ca H Z (.ref a) (.dct true ps) (a :: fp)
  | dtpF {a : Addr} {kvs : List (List Key × V)} {ks : List (List Key)} {ts : List T} : rdo Z a = some (.dT kvs) → kvs.map (·.1) = ks → OwA ca H Z (kvs.map (·.2)) ts [] → Ow ca H Z (.ref a) (.dtp false ks ts) []
  | dtpO {a : Addr} {kvs : List (List Key × V)} {ks : List (List Key)} {ts : List T} {fp : List Addr} : rdo H a = some (.dT kvs) → kvs.map (·.1) = ks → OwA ca H Z (kvs.map (·.2)) ts fp → ks.Nodup → Ow ca H Z (.ref a) (.dtp true ks ts) (a :: fp)
  | insF {a dx : Addr} {C : Str} {fs : List (Str × V)} {gs : List (Str × T)} : Z a = some (.ins (ca.cl C) dx fs) → fs.map (·.1) = gs.map (·.1) → OwA ca H Z (fs.map (·.2)) (gs.map (·.2)) [] → Ow ca H Z (.ref a) (.ins false C gs) []
  | insO {a dx : Addr} {C : Str} {fs : List (Str × V)} {gs : List (Str × T)} {fp : List Addr} : H a = some (.ins (ca.cl C) dx fs) → fs.map (·.1) = gs.map (·.1) → OwA ca H Z (fs.map (·.2)) (gs.map (·.2)) fp → (gs.map (·.1)).Nodup → Ow ca H Z (.ref a) (.ins true C gs) (a :: fp)
  | scr {a : Addr} {xs : List V} {ts : List T} : rdo Z a = some (.lst xs) → OwA ca H Z xs ts [] → Ow ca H Z (.ref a) (.scr ts) []
inductive OwA (ca : Ks) (H Z : Hp) : List V → List T → List Addr → Prop
  | nil : OwA ca H Z [] [] []
  | cons {v : V} {vs : List V} {t : T} {ts : List T} {f g : List Addr} : Ow ca H Z v t f → OwA ca H Z vs ts g → OwA ca H Z (v :: vs) (t :: ts) (f ++ g)
end
theorem rdo_at {H H' : Hp} {a : Addr} {u : HO} (h : ∀ o, H a = some o → H' a = some o) (e : rdo H a = some u) : rdo H' a = some u := by
  obtain ⟨o, q⟩ := rdo_some e
  have q2 := h o q
  unfold rdo at e ⊢
  rw [q] at e
  rw [q2]; exact e
section
variable {ca : Ks} {H H' Z Z' M : Hp}
mutual
theorem Ow.mono (z : Ext Z Z') : ∀ {v : V} {t : T} {fp : List Addr}, (∀ a ∈ fp, ∀ o, H a = some o → H' a = some o) → Ow ca H Z v t fp → Ow ca H' Z' v t fp
  | _, _, _, _, .non => .non
  | _, _, _, _, .bl b => .bl b
  | _, _, _, _, .int i => .int i
  | _, _, _, _, .str x => .str x
  | _, _, _, h, .tup e A => .tup (z _ _ e) (OwA.mono z (fun _ q => nomatch q) A)
  | _, _, _, h, .lstF e A => .lstF (z _ _ e) (OwA.mono z (fun _ q => nomatch q) A)
  | _, _, _, h, .lstO e A => .lstO (h _ List.mem_cons_self _ e) (OwA.mono z (fun a q => h a (List.mem_cons_of_mem _ q)) A)
  | _, _, _, h, .dctF e k A => .dctF (z.o e) k (OwA.mono z (fun _ q => nomatch q) A)
  | _, _, _, h, .dtpF e k A => .dtpF (z.o e) k (OwA.mono z (fun _ q => nomatch q) A)
  | _, _, _, h, .dctO e k A nd => .dctO (rdo_at (h _ List.mem_cons_self) e) k (OwA.mono z (fun a q => h a (List.mem_cons_of_mem _ q)) A) nd
  | _, _, _, h, .dtpO e k A nd => .dtpO (rdo_at (h _ List.mem_cons_self) e) k (OwA.mono z (fun a q => h a (List.mem_cons_of_mem _ q)) A) nd
  | _, _, _, h, .insF e k A => .insF (z _ _ e) k (OwA.mono z (fun _ q => nomatch q) A)
  | _, _, _, h, .insO e k A nd => .insO (h _ List.mem_cons_self _ e) k (OwA.mono z (fun a q => h a (List.mem_cons_of_mem _ q)) A) nd
  | _, _, _, h, .scr e A => .scr (z.o e) (OwA.mono z (fun _ q => nomatch q) A)
theorem OwA.mono (z : Ext Z Z') : ∀ {vs : List V} {ts : List T} {fp : List Addr}, (∀ a ∈ fp, ∀ o, H a = some o → H' a = some o) → OwA ca H Z vs ts fp → OwA ca H' Z' vs ts fp
  | _, _, _, _, .nil => .nil
  | _, _, _, h, .cons a b => .cons (Ow.mono z (fun x q => h x (List.mem_append_left _ q)) a) (OwA.mono z (fun x q => h x (List.mem_append_right _ q)) b)
end
mutual
/-- a tree does not ask about exceptions -/
theorem Ow.re {ca ca' : Ks} (e : ca.cl = ca'.cl) : ∀ {v : V} {t : T} {fp : List Addr}, Ow ca H Z v t fp → Ow ca' H Z v t fp
  | _, _, _, .non => .non
  | _, _, _, .bl b => .bl b
  | _, _, _, .int i => .int i
  | _, _, _, .str x => .str x
  | _, _, _, .tup h A => .tup h (OwA.re e A)
  | _, _, _, .lstF h A => .lstF h (OwA.re e A)
  | _, _, _, .lstO h A => .lstO h (OwA.re e A)
  | _, _, _, .dctF h k A => .dctF h k (OwA.re e A)
  | _, _, _, .dtpF h k A => .dtpF h k (OwA.re e A)
  | _, _, _, .dctO h k A nd => .dctO h k (OwA.re e A) nd
  | _, _, _, .dtpO h k A nd => .dtpO h k (OwA.re e A) nd
  | _, _, _, .insF h k A => .insF (by rw [← e]; exact h) k (OwA.re e A)
  | _, _, _, .insO h k A nd => .insO (by rw [← e]; exact h) k (OwA.re e A) nd
  | _, _, _, .scr h A => .scr h (OwA.re e A)
theorem OwA.re {ca ca' : Ks} (e : ca.cl = ca'.cl) : ∀ {vs : List V} {ts : List T} {fp : List Addr}, OwA ca H Z vs ts fp → OwA ca' H Z vs ts fp
  | _, _, _, .nil => .nil
  | _, _, _, .cons a b => .cons (Ow.re e a) (OwA.re e b)
end
theorem OwA.length : ∀ {vs : List V} {ts : List T} {fp : List Addr}, OwA ca H Z vs ts fp → vs.length = ts.length
  | _, _, _, .nil => rfl
  | _, _, _, .cons _ A => congrArg (· + 1) (OwA.length A)
/-! ### the data of a tree -/
mutual
def T.data : T → Option PyData
  | .non => some .none
  | .bl b => some (.bool b)
  | .int i => some (.int i)
  | .str x => some (.str x)
  | .tup ts => match T.dataA ts with | some ds => some (.tuple ds) | none => none
  | .lst _ ts => match T.dataA ts with | some ds => some (.list ds) | none => none
  | .dct _ ps => match T.dataP ps with | some ds => some (.dict ds) | none => none
  | .dtp _ _ _ => none
  | .ins _ _ _ => none
  | .scr ts => match T.dataA ts with | some ds => some (.list ds) | none => none
def T.dataA : List T → Option (List PyData)
  | [] => some []
  | t :: ts => match T.data t, T.dataA ts with | some d, some ds => some (d :: ds) | _, _ => none
def T.dataP : List (Key × T) → Option (List (PyData × PyData))
  | [] => some []
  | (k, t) :: ts => match T.data t, T.dataP ts with | some d, some ds => some ((keyD k, d) :: ds) | _, _ => none
end
/-! a frozen tree of the same shape -/
mutual
def T.frz : T → T
  | .non => .non
  | .bl b => .bl b
  | .int i => .int i
  | .str x => .str x
  | .tup ts => .tup (T.frzA ts)
  | .lst _ ts => .lst false (T.frzA ts)
  | .dct _ ps => .dct false (T.frzP ps)
  | .dtp _ ks ts => .dtp false ks (T.frzA ts)
  | .ins _ C fs => .ins false C (T.frzF fs)
  | .scr ts => .scr (T.frzA ts)
def T.frzA : List T → List T
  | [] => []
  | t :: ts => T.frz t :: T.frzA ts
def T.frzP : List (Key × T) → List (Key × T)
  | [] => []
  | (k, t) :: ts => (k, T.frz t) :: T.frzP ts
def T.frzF : List (Str × T) → List (Str × T)
  | [] => []
  | (k, t) :: ts => (k, T.frz t) :: T.frzF ts
end
theorem T.frzP_map : ∀ ps : List (Key × T), (T.frzP ps).map (·.1) = ps.map (·.1) ∧ (T.frzP ps).map (·.2) = T.frzA (ps.map (·.2))
  | [] => ⟨rfl, rfl⟩
  | (k, t) :: r => by
    have h := T.frzP_map r
    simp only [T.frzP, List.map_cons, h.1, h.2, T.frzA, and_self]
theorem T.frzF_map : ∀ ps : List (Str × T), (T.frzF ps).map (·.1) = ps.map (·.1) ∧ (T.frzF ps).map (·.2) = T.frzA (ps.map (·.2))
  | [] => ⟨rfl, rfl⟩
  | (k, t) :: r => by
    have h := T.frzF_map r
    simp only [T.frzF, List.map_cons, h.1, h.2, T.frzA, and_self]
/-! frozen already: nothing in it is own -/
mutual
def T.isF : T → Bool
  | .non | .bl _ | .int _ | .str _ => true
  | .tup ts => T.isFA ts
  | .lst o ts => !o && T.isFA ts
  | .dct o ps => !o && T.isFP ps
  | .dtp o _ ts => !o && T.isFA ts
  | .ins o _ fs => !o && T.isFF fs
  | .scr ts => T.isFA ts
def T.isFA : List T → Bool
  | [] => true
  | t :: ts => T.isF t && T.isFA ts
def T.isFP : List (Key × T) → Bool
  | [] => true
  | (_, t) :: ts => T.isF t && T.isFP ts
def T.isFF : List (Str × T) → Bool
  | [] => true
  | (_, t) :: ts => T.isF t && T.isFF ts
end
mutual
theorem Ow.nof : ∀ {v : V} {t : T} {fp : List Addr}, Ow ca H Z v t fp → t.isF = true → fp = []
  | _, _, _, .non, _ => rfl
  | _, _, _, .bl b, _ => rfl
  | _, _, _, .int i, _ => rfl
  | _, _, _, .str x, _ => rfl
  | _, _, _, .tup e A, _ => rfl
  | _, _, _, .lstF e A, _ => rfl
  | _, _, _, .lstO e A, h => by simp [T.isF] at h
  | _, _, _, .dctF e k A, _ => rfl
  | _, _, _, .dtpF e k A, _ => rfl
  | _, _, _, .dctO e k A nd, h => by simp [T.isF] at h
  | _, _, _, .dtpO e k A nd, h => by simp [T.isF] at h
  | _, _, _, .insF e k A, _ => rfl
  | _, _, _, .insO e k A nd, h => by simp [T.isF] at h
  | _, _, _, .scr e A, _ => rfl
theorem OwA.nof : ∀ {vs : List V} {ts : List T} {fp : List Addr}, OwA ca H Z vs ts fp → T.isFA ts = true → fp = []
  | _, _, _, .nil, _ => rfl
  | _, _, _, .cons h A, q => by
    simp only [T.isFA, Bool.and_eq_true] at q
    rw [Ow.nof h q.1, OwA.nof A q.2]; rfl
end
end
end Rm
/-! Rm, part V2: the frame's state as trees; expressions and lists of expressions. -/
namespace Rm
open PySem PySem.Spec L2
open PyProof.Rows hiding St
section
variable {ca : Ks} {H H' Z Z' M : Hp}
/-! ### the data of a tree, in a heap -/
mutual
theorem Ow.dr (z : Ext Z H) : ∀ {v : V} {t : T} {fp : List Addr} {d : PyData}, Ow ca H Z v t fp → t.data = some d → Dr H v d
  | _, _, _, _, .non, e => by cases e; exact .non
  | _, _, _, _, .bl b, e => by cases e; exact .bl b
  | _, _, _, _, .int i, e => by cases e; exact .int i
  | _, _, _, _, .str x, e => by cases e; exact .str x
  | _, _, _, _, .tup (ts := ts) h A, e => by
    unfold T.data at e
    split at e
    · rename_i ds q; cases e; exact .tup (rdo_of (z _ _ h) (fun _ _ y => nomatch y)) (OwA.dr z A q)
    · cases e
  | _, _, _, _, .lstF (ts := ts) h A, e => by
    unfold T.data at e
    split at e
    · rename_i ds q; cases e; exact .lst (rdo_of (z _ _ h) (fun _ _ y => nomatch y)) (OwA.dr z A q)
    · cases e
  | _, _, _, _, .lstO (ts := ts) h A, e => by
    unfold T.data at e
    split at e
    · rename_i ds q; cases e; exact .lst (rdo_of h (fun _ _ y => nomatch y)) (OwA.dr z A q)
    · cases e
  | _, _, _, _, .dctF (ks := ks) (ps := ps) h k A, e => by
    unfold T.data at e
    split at e
    · rename_i ds q; cases e; exact .dct (z.o h) (OwA.drP z k A q)
    · cases e
  | _, _, _, _, .dctO (ks := ks) (ps := ps) h k A _, e => by
    unfold T.data at e
    split at e
    · rename_i ds q; cases e; exact .dct h (OwA.drP z k A q)
    · cases e
  | _, _, _, _, .dtpF h k A, e => by cases e
  | _, _, _, _, .dtpO h k A _, e => by cases e
  | _, _, _, _, .insF h k A, e => by cases e
  | _, _, _, _, .insO h k A _, e => by cases e
  | _, _, _, _, .scr (ts := ts) h A, e => by
    unfold T.data at e
    split at e
    · rename_i ds q; cases e; exact .lst (z.o h) (OwA.dr z A q)
    · cases e
theorem OwA.dr (z : Ext Z H) : ∀ {vs : List V} {ts : List T} {fp : List Addr} {ds : List PyData}, OwA ca H Z vs ts fp → T.dataA ts = some ds → DrA H vs ds
  | _, _, _, _, .nil, e => by cases e; exact .nil
  | _, _, _, _, .cons h A, e => by
    unfold T.dataA at e
    split at e
    · rename_i d ds q1 q2; cases e; exact .cons (Ow.dr z h q1) (OwA.dr z A q2)
    · cases e
theorem OwA.drP (z : Ext Z H) : ∀ {ks : List (Key × V)} {ps : List (Key × T)} {fp : List Addr} {ds : List (PyData × PyData)}, ks.map (·.1) = ps.map (·.1) → OwA ca H Z (ks.map (·.2)) (ps.map (·.2)) fp → T.dataP ps = some ds → DrK H ks ds
  | [], [], _, _, _, _, e => by cases e; exact .nil
  | [], _ :: _, _, _, k, _, _ => nomatch k
  | _ :: _, [], _, _, k, _, _ => nomatch k
  | (k1, v) :: ks, (k2, t) :: ps, _, _, k, A, e => by
    simp only [List.map_cons, List.cons.injEq] at k
    obtain ⟨rfl, k⟩ := k
    unfold T.dataP at e
    split at e
    · rename_i d ds q1 q2
      cases e
      cases A with
      | cons h A => exact .cons (Ow.dr z h q1) (OwA.drP z k A q2)
    · cases e
end
/-! ### data as a frozen tree -/
def keyU : PyData → Key
  | .int i => .inl i
  | .str x => .inr x
  | _ => .inl 0
theorem keyU_D (k : Key) : keyU (keyD k) = k := by cases k <;> rfl
mutual
def enc : PyData → T
  | .none => .non
  | .bool b => .bl b
  | .int i => .int i
  | .str x => .str x
  | .tuple ds => .tup (encA ds)
  | .list ds => .lst false (encA ds)
  | .dict ds => .dct false (encP ds)
def encA : List PyData → List T
  | [] => []
  | d :: ds => enc d :: encA ds
def encP : List (PyData × PyData) → List (Key × T)
  | [] => []
  | (k, d) :: ds => (keyU k, enc d) :: encP ds
end
/-- nothing is locked -/
def NF (Z : Hp) : Prop := ∀ a o u, Z a ≠ some (.frz o u)
theorem NF.rd {Z : Hp} (n : NF Z) {a : Addr} {u : HO} (h : rdo Z a = some u) : Z a = some u := by
  unfold rdo at h
  split at h
  · rename_i o v e; exact absurd e (n _ _ _)
  · exact h
mutual
theorem Dr.ow (nf : NF Z) : ∀ {v : V} {d : PyData}, Dr Z v d → Ow ca H Z v (enc d) []
  | _, _, .non => .non
  | _, _, .bl b => .bl b
  | _, _, .int i => .int i
  | _, _, .str x => .str x
  | _, _, .lst h A => .lstF (nf.rd h) (DrA.ow nf A)
  | _, _, .tup h A => .tup (nf.rd h) (DrA.ow nf A)
  | _, _, .dct h A => .dctF h (DrK.ow nf A).1 (DrK.ow nf A).2
theorem DrA.ow (nf : NF Z) : ∀ {vs : List V} {ds : List PyData}, DrA Z vs ds → OwA ca H Z vs (encA ds) []
  | _, _, .nil => .nil
  | _, _, .cons h A => .cons (f := []) (g := []) (Dr.ow nf h) (DrA.ow nf A)
theorem DrK.ow (nf : NF Z) : ∀ {ks : List (Key × V)} {ds : List (PyData × PyData)}, DrK Z ks ds → ks.map (·.1) = (encP ds).map (·.1) ∧ OwA ca H Z (ks.map (·.2)) ((encP ds).map (·.2)) []
  | _, _, .nil => ⟨rfl, .nil⟩
  | _, _, .cons (k := k) h A => by
    have q := DrK.ow nf A
    simp only [encP, List.map_cons, q.1, keyU_D]
    exact ⟨trivial, .cons (f := []) (g := []) (Dr.ow nf h) q.2⟩
end
/-! ### freezing -/
mutual
theorem Ow.frz {H2 : Hp} (z : Ext Z Z') : ∀ {v : V} {t : T} {fp : List Addr}, Ow ca H Z v t fp → (∀ a ∈ fp, ∀ o, H a = some o → Z' a = some o) → Ow ca H2 Z' v t.frz []
  | _, _, _, .non, _ => .non
  | _, _, _, .bl b, _ => .bl b
  | _, _, _, .int i, _ => .int i
  | _, _, _, .str x, _ => .str x
  | _, _, _, .tup e A, h => .tup (z _ _ e) (OwA.frz z A (fun _ q => nomatch q))
  | _, _, _, .lstF e A, h => .lstF (z _ _ e) (OwA.frz z A (fun _ q => nomatch q))
  | _, _, _, .lstO e A, h => .lstF (h _ List.mem_cons_self _ e) (OwA.frz z A (fun a q => h a (List.mem_cons_of_mem _ q)))
  | _, _, _, .dctF e k A, h => .dctF (z.o e) (k.trans (T.frzP_map _).1.symm) (by rw [(T.frzP_map _).2]; exact OwA.frz z A (fun _ q => nomatch q))
  | _, _, _, .dctO e k A _, h => .dctF (rdo_at (h _ List.mem_cons_self) e) (k.trans (T.frzP_map _).1.symm) (by rw [(T.frzP_map _).2]; exact OwA.frz z A (fun a q => h a (List.mem_cons_of_mem _ q)))
  | _, _, _, .dtpF e k A, h => .dtpF (z.o e) k (OwA.frz z A (fun _ q => nomatch q))
  | _, _, _, .dtpO e k A _, h => .dtpF (rdo_at (h _ List.mem_cons_self) e) k (OwA.frz z A (fun a q => h a (List.mem_cons_of_mem _ q)))
  | _, _, _, .insF e k A, h => .insF (z _ _ e) (k.trans (T.frzF_map _).1.symm) (by rw [(T.frzF_map _).2]; exact OwA.frz z A (fun _ q => nomatch q))
  | _, _, _, .insO e k A _, h => .insF (h _ List.mem_cons_self _ e) (k.trans (T.frzF_map _).1.symm) (by rw [(T.frzF_map _).2]; exact OwA.frz z A (fun a q => h a (List.mem_cons_of_mem _ q)))
  | _, _, _, .scr e A, h => .scr (z.o e) (OwA.frz z A (fun _ q => nomatch q))
theorem OwA.frz {H2 : Hp} (z : Ext Z Z') : ∀ {vs : List V} {ts : List T} {fp : List Addr}, OwA ca H Z vs ts fp → (∀ a ∈ fp, ∀ o, H a = some o → Z' a = some o) → OwA ca H2 Z' vs (T.frzA ts) []
  | _, _, _, .nil, _ => .nil
  | _, _, _, .cons h A, q => .cons (f := []) (g := []) (Ow.frz z h (fun a y => q a (List.mem_append_left _ y))) (OwA.frz z A (fun a y => q a (List.mem_append_right _ y)))
end
theorem Ow.any {v : V} {t : T} {H2 : Hp} (h : Ow ca H Z v t []) : Ow ca H2 Z v t [] := Ow.mono (Ext.refl Z) (fun _ q => nomatch q) h
theorem OwA.any {vs : List V} {ts : List T} {H2 : Hp} (h : OwA ca H Z vs ts []) : OwA ca H2 Z vs ts [] := OwA.mono (Ext.refl Z) (fun _ q => nomatch q) h
end
/-! ### slots -/
inductive Ent where
  | no | own (t : T) | vw (t : T)
  /-- an exception that was caught: its field, what it holds -/
  | exc (f : Str) (t : T)
def Ent.t : Ent → T
  | .own t => t
  | .vw t => t
  | .no => .non
  | .exc _ _ => .non
inductive R (α : Type) where
  | ok (a : α) (ρ : List Ent) | err (C : Str) (d : T) (ρ : List Ent) | fail
def R.bind {α β : Type} (r : R α) (k : α → List Ent → R β) : R β := match r with
  | .ok a ρ => k a ρ
  | .err C d ρ => .err C d ρ
  | .fail => .fail
/-- what may be one's own -/
def ownO : HO → Bool
  | .lst _ => true
  | .dK _ => true
  | .dT _ => true
  | .ins _ _ _ => true
  | _ => false
/-- there, and one's own (not locked, no table, no code object) -/
def Op (H : Hp) (a : Addr) : Prop := ∃ o, H a = some o ∧ ownO o = true
theorem Op.nn {H : Hp} {a : Addr} (h : Op H a) : H a ≠ none := by
  obtain ⟨o, e, _⟩ := h
  rw [e]; exact fun z => nomatch z
theorem Op.keep {H H' : Hp} {a : Addr} (h : Op H a) (k : ∀ o, H a = some o → H' a = some o) : Op H' a := by
  obtain ⟨o, e, n⟩ := h
  exact ⟨o, k o e, n⟩
theorem Op.rd {H : Hp} {a : Addr} {u : HO} (h : Op H a) (e : rdo H a = some u) : H a = some u := by
  obtain ⟨o, e2, n⟩ := h
  unfold rdo at e
  rw [e2] at e
  split at e
  · rename_i z; cases z; cases n
  · rw [e2]; exact e
/-- the tables of code objects that are kept -/
class Tb where
  T : List (Addr × Str)
instance (priority := low) Tb.none : Tb := ⟨[]⟩
/-- tables and code objects -/
def isTC : HO → Prop := fun o => (∃ ps, o = .tbl ps) ∨ ∃ c q, o = LamX.CodeO c q
theorem isTC_own {o : HO} (h : isTC o) (q : ownO o = true) : False := by
  rcases h with ⟨ps, rfl⟩ | ⟨c, x, rfl⟩
  · cases q
  · cases q
theorem tabs_keep {T : List (Addr × Str)} {H H' : Hp} (t : LamX.Tabs T H) (k : ∀ a o, H a = some o → isTC o → H' a = some o) : LamX.Tabs T H' := fun p hp => by
  obtain ⟨ps, e, tr, h⟩ := t p hp
  refine ⟨ps, k _ _ e (.inl ⟨_, rfl⟩), tr, fun pos cv q => ?_⟩
  obtain ⟨c, e1, e2⟩ := h pos cv q
  exact ⟨c, e1, k _ _ e2 (.inr ⟨_, _, rfl⟩)⟩
/-- no table stands here -/
def NoT (M : Hp) : Prop := ∀ a ps, M a ≠ some (.tbl ps)
/-- tables stand apart -/
structure TbOk (T : List (Addr × Str)) (M Z H : Hp) : Prop where
  m : T ≠ [] → NoT M
  z : NoT Z
  t : LamX.Tabs T H
theorem TbOk.nil {M Z H : Hp} (z : NoT Z) : TbOk [] M Z H := ⟨fun q => absurd rfl q, z, fun _ q => nomatch q⟩
theorem NoT.ext {M M' : Hp} (n : NoT M') (x : Ext M M') : NoT M := fun a ps e => n a ps (x _ _ e)
theorem NoT.upd {Z : Hp} {p : Addr} {o : HO} (n : NoT Z) (h : ∀ ps, o ≠ .tbl ps) : NoT (upd Z p o) := fun a ps e => by
  by_cases q : a = p
  · subst q; rw [upd_same] at e; cases e; exact h _ rfl
  · rw [upd_ne q] at e; exact n a ps e
/-- a new heap of frozen things -/
theorem NoT.zn {Z Z' H H' M : Hp} (n : NoT Z) (z : Ext Z Z') (zh : Ext Z' H') (h : ∀ a, Z' a ≠ none → Z a ≠ none ∨ M a = none) (m : ∀ a ps, Z' a = some (.tbl ps) → M a ≠ none) : NoT Z' := fun a ps e => by
  rcases h a (by rw [e]; exact fun z => nomatch z) with q | q
  · cases y : Z a with
    | none => exact q y
    | some o => have := z _ _ y; rw [e] at this; cases this; exact n _ _ y
  · exact m a ps e q
theorem own_tbl {o : HO} (h : ownO o = true) : ∀ ps, o ≠ .tbl ps := fun ps e => by subst e; cases h
structure BaseT (T : List (Addr × Str)) (M Z H : Hp) (w : List Addr) : Prop where
  z : Ext Z H
  zw : ∀ a ∈ w, Z a = none
  m : Ext M H
  mw : ∀ a ∈ w, M a = none
  nd : w.Nodup
  hw : ∀ a ∈ w, Op H a
  tb : TbOk T M Z H
variable [Tb]
abbrev Base (M Z H : Hp) (w : List Addr) : Prop := BaseT Tb.T M Z H w
inductive Slot (ca : Ks) (H M Z : Hp) : Option V → Ent → List Addr → Prop
  | no {x : Option V} : Slot ca H M Z x .no []
  | own {v : V} {t : T} {fp : List Addr} : Ow ca H Z v t fp → Slot ca H M Z (some v) (.own t) fp
  | vw {v : V} {t : T} {g : List Addr} : Ow ca M Z v t g → Slot ca H M Z (some v) (.vw t) []
  | exc {a dd : Addr} {vd : V} {f : Str} {t : T} : ca.xo a = some dd → Z dd = some (.xd [(f, vd)]) → Ow ca M Z vd t [] → Slot ca H M Z (some (.ref a)) (.exc f t) []
inductive Slots (ca : Ks) (H M Z : Hp) : St → List Ent → List Addr → Prop
  | nil : Slots ca H M Z [] [] []
  | cons {x : Option V} {σ : St} {e : Ent} {ρ : List Ent} {f g : List Addr} : Slot ca H M Z x e f → Slots ca H M Z σ ρ g → Slots ca H M Z (x :: σ) (e :: ρ) (f ++ g)
/-- an expression's value -/
inductive EntV (ca : Ks) (H Z : Hp) : V → Ent → List Addr → Prop
  | own {v : V} {t : T} {fp : List Addr} : Ow ca H Z v t fp → EntV ca H Z v (.own t) fp
  | vw {v : V} {t : T} {g : List Addr} : Ow ca H Z v t g → EntV ca H Z v (.vw t) []
/-- nothing stands here, or a tuple, which nobody owns -/
def NoOwn (M : Hp) (a : Addr) : Prop := ∀ o, M a = some o → ∃ xs, o = .tup xs
theorem NoOwn.of_none {M : Hp} {a : Addr} (h : M a = none) : NoOwn M a := fun o e => by rw [h] at e; cases e
theorem NoOwn.op {M : Hp} {a : Addr} {o : HO} (n : NoOwn M a) (e : M a = some o) (h : ownO o = true) : False := by
  obtain ⟨xs, rfl⟩ := n o e
  cases h
def ZN (M Z Z' : Hp) : Prop := ∀ a, Z' a ≠ none → Z a ≠ none ∨ NoOwn M a
section
variable {ca : Ks} {H H' H2 Z Z' Z2 M M' : Hp} {w w' fp f : List Addr} {σ : St} {ρ : List Ent}
theorem ZN.refl : ZN M Z Z := fun _ h => Or.inl h
theorem ZN.trans (a : ZN M Z Z') (b : ZN M Z' Z2) : ZN M Z Z2 := fun x h => (b x h).elim (a x) Or.inr
theorem ZN.of (h : Ext M M') (a : ZN M' Z Z') : ZN M Z Z' := fun x q => (a x q).imp id fun n o e => n o (h x o e)
theorem Slot.mono (z : Ext Z Z') (hh : ∀ a ∈ fp, ∀ o, H a = some o → H' a = some o) {x : Option V} {e : Ent} (s : Slot ca H M Z x e fp) : Slot ca H' M Z' x e fp := by
  cases s with
  | no => exact .no
  | own h => exact .own (h.mono z hh)
  | vw h => exact .vw (h.mono z (fun _ _ _ q => q))
  | exc x e h => exact .exc x (z _ _ e) (h.mono z (fun _ _ _ q => q))
theorem Slots.mono (z : Ext Z Z') : ∀ {σ : St} {ρ : List Ent} {w : List Addr}, (∀ a ∈ w, ∀ o, H a = some o → H' a = some o) → Slots ca H M Z σ ρ w → Slots ca H' M Z' σ ρ w
  | _, _, _, _, .nil => .nil
  | _, _, _, h, .cons a b => .cons (a.mono z fun x q => h x (List.mem_append_left _ q)) (Slots.mono z (fun x q => h x (List.mem_append_right _ q)) b)
theorem Slots.length : ∀ {σ : St} {ρ : List Ent} {w : List Addr}, Slots ca H M Z σ ρ w → σ.length = ρ.length
  | _, _, _, .nil => rfl
  | _, _, _, .cons a b => congrArg (· + 1) (Slots.length b)
/-- one slot apart -/
theorem Slots.split : ∀ {σ : St} {ρ : List Ent} {w : List Addr} {i : Nat} {e : Ent}, Slots ca H M Z σ ρ w → ρ[i]? = some e → ∃ x l f r, σ[i]? = some x ∧ w = l ++ (f ++ r) ∧ Slot ca H M Z x e f ∧
    ∀ {H' Z' : Hp} {x' : Option V} {e' : Ent} {f' : List Addr}, (∀ a ∈ l ++ r, ∀ o, H a = some o → H' a = some o) → Ext Z Z' → Slot ca H' M Z' x' e' f' → Slots ca H' M Z' (σ.set i x') (ρ.set i e') (l ++ (f' ++ r))
  | _, _, _, 0, _, .cons (x := x) (f := f) (g := g) a b, h => by
    simp at h
    subst h
    refine ⟨x, [], f, g, rfl, rfl, a, fun {H' Z' x' e' f'} hh z s => ?_⟩
    have q : Slots ca H' M Z' (x' :: _) (e' :: _) (f' ++ g) := .cons s (b.mono z fun y q => hh y q)
    exact q
  | _, _, _, i + 1, _, .cons (f := f0) a b, h => by
    simp at h
    obtain ⟨x, l, f, r, e1, e2, s, k⟩ := Slots.split b h
    refine ⟨x, f0 ++ l, f, r, by simpa using e1, by rw [e2]; simp [List.append_assoc], s, fun hh z s => ?_⟩
    have q := Slots.cons (a.mono z fun y q => hh y (by simp [q])) (k (fun y q => hh y (by simp at q ⊢; rcases q with q | q <;> simp [q])) z s)
    simpa [List.append_assoc] using q
theorem Slots.non0 (s : Slots ca H M Z σ ρ w) {i : Nat} (h : ρ[i]? = none) : σ[i]? = none := by
  have := s.length
  have q := List.getElem?_eq_none_iff.mp h
  exact List.getElem?_eq_none_iff.mpr (by omega)
/-! the base -/
theorem Base.sub (b : Base M Z H w) (p : w'.Sublist w) : Base M Z H w' := ⟨b.z, fun a h => b.zw a (p.mem h), b.m, fun a h => b.mw a (p.mem h), p.nodup b.nd, fun a h => b.hw a (p.mem h), b.tb⟩
theorem Base.drop (b : Base M Z H (fp ++ w)) : Base M Z H w := b.sub (List.sublist_append_right _ _)
theorem Base.less (b : Base M' Z H w) (m : Ext M M') : Base M Z H w := ⟨b.z, b.zw, fun a o q => b.m a o (m a o q), fun a h => (by
  cases y : M a with
  | none => rfl
  | some o => have q := b.mw a h; rw [m a o y] at q; cases q), b.nd, b.hw, ⟨fun q => (b.tb.m q).ext m, b.tb.z, b.tb.t⟩⟩
/-- a table that is kept apart -/
def hidT (o : Option HO) : Bool := !Tb.T.isEmpty && (match o with
  | some (.tbl _) => true
  | _ => false)
/-- the heap without what is owned -/
def out (w : List Addr) (H : Hp) : Hp := fun a => if a ∈ w ∨ hidT (H a) = true then none else H a
theorem out_some {a : Addr} {o : HO} (h : out w H a = some o) : a ∉ w ∧ H a = some o := by
  unfold out at h
  split at h
  · cases h
  · rename_i n; exact ⟨fun q => n (.inl q), h⟩
theorem out_of {a : Addr} {o : HO} (n : a ∉ w) (nt : Tb.T ≠ [] → ∀ ps, o ≠ .tbl ps) (h : H a = some o) : out w H a = some o := by
  unfold out
  have no : ¬ (a ∈ w ∨ hidT (H a) = true) := fun q => q.elim n fun q => by
    rw [h] at q
    unfold hidT at q
    simp only [Bool.and_eq_true, Bool.not_eq_true', List.isEmpty_eq_false_iff] at q
    obtain ⟨q1, q2⟩ := q
    cases o with
    | tbl ps => exact nt q1 _ rfl
    | _ => cases q2
  rw [if_neg no]; exact h
theorem out_in {a : Addr} (h : a ∈ w) : out w H a = none := by
  unfold out
  rw [if_pos (.inl h)]
theorem out_not (q : Tb.T ≠ []) : NoT (out w H) := fun a ps e => by
  have h := (out_some e).2
  unfold out at e
  rw [if_pos (.inr (by rw [h]; unfold hidT; simp [q]))] at e
  cases e
/-- what stands in the frame is no table -/
theorem Base.ntm (b : Base M Z H w) {a : Addr} {o : HO} (h : M a = some o) : Tb.T ≠ [] → ∀ ps, o ≠ .tbl ps := fun q ps e => by subst e; exact b.tb.m q _ _ h
theorem Base.ntw (b : Base M Z H w) {a : Addr} {o : HO} (h : a ∈ w) (e : H a = some o) : Tb.T ≠ [] → ∀ ps, o ≠ .tbl ps := fun _ => by
  obtain ⟨u, e1, e2⟩ := b.hw a h
  rw [e] at e1; cases e1
  exact own_tbl e2
/-- all else as the frame -/
theorem Base.out (b : Base M Z H (fp ++ w)) : Base (out w H) Z H w := ⟨b.z, fun a h => b.zw a (List.mem_append_right _ h), fun a o h => (out_some h).2, fun a h => out_in h, (List.nodup_append.mp b.nd).2.1, fun a h => b.hw a (List.mem_append_right _ h), ⟨fun q => out_not q, b.tb.z, b.tb.t⟩⟩
theorem Base.le (b : Base M Z H (fp ++ w)) : Ext M (Rm.out w H) := fun a o h => out_of (fun q => by rw [b.mw a (List.mem_append_right _ q)] at h; cases h) (b.ntm h) (b.m a o h)
theorem Base.keep (b : Base M Z H (fp ++ w)) : ∀ a ∈ fp, ∀ o, H a = some o → Rm.out w H a = some o := fun a h o e => out_of (fun q => (List.nodup_append.mp b.nd).2.2 a h a q rfl) (b.ntw (List.mem_append_left _ h) e) e
/-- two owned parts side by side -/
theorem Base.join (b1 : Base M Z H (fp ++ w)) (b2 : Base (Rm.out w H) Z' H' (f ++ w')) (n : ZN (Rm.out w H) Z Z') : Base M Z' H' ((fp ++ f) ++ w') := by
  have kp : ∀ a ∈ fp, ∃ o, H a = some o ∧ Rm.out w H a = some o := fun a h => by
    cases y : H a with
    | none => exact absurd y (b1.hw a (List.mem_append_left _ h)).nn
    | some o => exact ⟨o, rfl, b1.keep a h o y⟩
  have dj : ∀ a ∈ fp, a ∉ f ++ w' := fun a h q => by
    obtain ⟨o, _, e⟩ := kp a h
    rw [b2.mw a q] at e; cases e
  rw [List.append_assoc]
  refine ⟨b2.z, fun a h => ?_, fun a o h => b2.m a o (b1.le a o h), fun a h => ?_, ?_, fun a h => ?_, ⟨b1.tb.m, b2.tb.z, b2.tb.t⟩⟩
  · rcases List.mem_append.mp h with h | h
    · cases y : Z' a with
      | none => rfl
      | some o =>
        obtain ⟨o', _, e⟩ := kp a h
        rcases n a (by rw [y]; exact fun z => nomatch z) with q | q
        · exact absurd (b1.zw a (List.mem_append_left _ h)) q
        · exact (q.op e (by obtain ⟨u, e1, e2⟩ := b1.hw a (List.mem_append_left _ h); have := (out_some e).2; rw [e1] at this; cases this; exact e2)).elim
    · exact b2.zw a h
  · rcases List.mem_append.mp h with h | h
    · exact b1.mw a (List.mem_append_left _ h)
    · cases y : M a with
      | none => rfl
      | some o => have q := b2.mw a h; rw [b1.le a o y] at q; cases q
  · exact List.nodup_append.mpr ⟨(List.nodup_append.mp b1.nd).1, b2.nd, fun a h b q e => dj a h (e ▸ q)⟩
  · rcases List.mem_append.mp h with h | h
    · exact (b1.hw a (List.mem_append_left _ h)).keep fun o e => b2.m a o (b1.keep a h o e)
    · exact b2.hw a h
end
structure VC where
  ca : Ks
  ef : Str → Str
def FinE (c : VC) (W : WX) (ro : Bool) (M P Z H : Hp) (σ : St) (w : List Addr) (Q : VK) : R Ent → Prop
  | .ok e ρ' => ∀ v H' Z' fp w', Ext Z Z' → ZN P Z Z' → Base P Z' H' (fp ++ w') → EntV c.ca H' Z' v e fp → Slots c.ca H' M Z' σ ρ' w' → (ro = true → Ext H H' ∧ w' = w) → Q v H'
  | .err C d ρ' => ∀ x vd H' Z' w', Ext Z Z' → ZN P Z Z' → Base P Z' H' w' → Z' x = some (.xd [(c.ef C, vd)]) → Ow c.ca H' Z' vd d [] → Slots c.ca H' M Z' σ ρ' w' → W (.ref (c.ca.cl C)) (some x) σ H'
  | .fail => False
/-- an expression's meaning -/
structure SV (c : VC) (W : WX) (ro : Bool) (t : TE) (m : List Ent → R Ent) : Prop where
  go : ∀ (M P Z H : Hp) (σ : St) (ρ : List Ent) (w : List Addr) (Q : VK), Ext M P → Base P Z H w → Slots c.ca H M Z σ ρ w → FinE c W ro M P Z H σ w Q (m ρ) → t σ H Q
inductive EntVs (ca : Ks) (H Z : Hp) : List V → List Ent → List Addr → Prop
  | nil : EntVs ca H Z [] [] []
  | cons {v : V} {vs : List V} {e : Ent} {es : List Ent} {f g : List Addr} : EntV ca H Z v e f → EntVs ca H Z vs es g → EntVs ca H Z (v :: vs) (e :: es) (f ++ g)
def FinA (c : VC) (W : WX) (ro : Bool) (M P Z H : Hp) (σ : St) (w : List Addr) (Q : List V → Hp → Prop) : R (List Ent) → Prop
  | .ok es ρ' => ∀ vs H' Z' fp w', Ext Z Z' → ZN P Z Z' → Base P Z' H' (fp ++ w') → EntVs c.ca H' Z' vs es fp → Slots c.ca H' M Z' σ ρ' w' → (ro = true → Ext H H' ∧ w' = w) → Q vs H'
  | .err C d ρ' => ∀ x vd H' Z' w', Ext Z Z' → ZN P Z Z' → Base P Z' H' w' → Z' x = some (.xd [(c.ef C, vd)]) → Ow c.ca H' Z' vd d [] → Slots c.ca H' M Z' σ ρ' w' → W (.ref (c.ca.cl C)) (some x) σ H'
  | .fail => False
structure SA (c : VC) (W : WX) (ro : Bool) (t : TA) (m : List Ent → R (List Ent)) : Prop where
  go : ∀ (M P Z H : Hp) (σ : St) (ρ : List Ent) (w : List Addr) (Q : List V → Hp → Prop), Ext M P → Base P Z H w → Slots c.ca H M Z σ ρ w → FinA c W ro M P Z H σ w Q (m ρ) → t σ H Q
section
variable {ca : Ks} {H H' H2 Z Z' Z2 M M' : Hp} {w w' fp f g : List Addr} {σ : St} {ρ : List Ent} {v : V} {e : Ent}
theorem EntV.mono (z : Ext Z Z') (hh : ∀ a ∈ fp, ∀ o, H a = some o → H' a = some o) (hx : (∃ t, e = .vw t ∧ t.isF = false) → Ext H H') (s : EntV ca H Z v e fp) : EntV ca H' Z' v e fp := by
  cases s with
  | own h => exact .own (h.mono z hh)
  | @vw t g h =>
    cases y : T.isF t with
    | true =>
      obtain rfl := Ow.nof h y
      exact .vw (g := []) (Ow.mono (H := H) z (fun a q => absurd q List.not_mem_nil) h)
    | false => exact .vw (h.mono z fun a _ o q => hx ⟨t, rfl, y⟩ a o q)
/-- kept while others are evaluated -/
def Ent.held : Ent → Bool
  | .own _ => true
  | .vw t => t.isF
  | .no => false
  | .exc _ _ => false
end
def mNil : List Ent → R (List Ent) := fun ρ => .ok [] ρ
def mCons (r : Bool) (m : List Ent → R Ent) (ms : List Ent → R (List Ent)) : List Ent → R (List Ent) := fun ρ => (m ρ).bind fun e ρ1 => if r || e.held then (ms ρ1).bind fun es ρ2 => .ok (e :: es) ρ2 else .fail
section
variable {c : VC} {W : WX} {r1 r2 : Bool} {t : TE} {ta : TA} {m : List Ent → R Ent} {ms : List Ent → R (List Ent)}
theorem SA.nil : SA c W true tNil mNil := ⟨fun M P Z H σ ρ w Q mp b s h => h [] H Z [] w (Ext.refl _) ZN.refl b .nil s fun _ => ⟨Ext.refl _, rfl⟩⟩
theorem SA.cons (h1 : SV c W r1 t m) (h2 : SA c W r2 ta ms) : SA c W (r1 && r2) (tCons t ta) (mCons r2 m ms) := by
  refine ⟨fun M P Z H σ ρ w Q mp b s h => ?_⟩
  unfold tCons
  refine h1.go M P Z H σ ρ w _ mp b s ?_
  unfold mCons at h
  cases e1 : m ρ with
  | fail => rw [e1] at h; exact h
  | err C d ρ1 =>
    rw [e1] at h
    exact h
  | ok e ρ1 =>
    rw [e1] at h
    dsimp only [R.bind] at h
    split at h
    rotate_left
    · exact h.elim
    rename_i hh
    intro v H1 Z1 fp w1 z1 n1 b1 ev s1 ro1
    refine h2.go M (Rm.out w1 H1) Z1 H1 σ ρ1 w1 _ (mp.trans b1.le) b1.out s1 ?_
    have hx : ∀ {H2 : Hp}, (r2 = true → Ext H1 H2) → (∃ t, e = .vw t ∧ t.isF = false) → Ext H1 H2 := fun k q => by
      obtain ⟨t, rfl, y⟩ := q
      refine k ?_
      cases r2
      · simp [Ent.held, y] at hh
      · rfl
    cases e2 : ms ρ1 with
    | fail => rw [e2] at h; exact h
    | err C d ρ2 =>
      rw [e2] at h
      intro x vd H2 Z2 w2 z2 n2 b2 hx2 ov s2
      exact h x vd H2 Z2 w2 (z1.trans z2) (n1.trans (n2.of b1.le)) (b2.less b1.le) hx2 ov s2
    | ok es ρ2 =>
      rw [e2] at h
      intro vs H2 Z2 fp2 w2 z2 n2 b2 evs s2 ro2
      have kf : ∀ a ∈ fp, ∀ o, H1 a = some o → H2 a = some o := fun a q o y => b2.m a o (b1.keep a q o y)
      refine h (v :: vs) H2 Z2 (fp ++ fp2) w2 (z1.trans z2) (n1.trans (n2.of b1.le)) ?_ (.cons (ev.mono z2 kf (hx fun q => (ro2 q).1)) evs) s2 fun q => ?_
      · exact Base.join b1 b2 n2
      · simp only [Bool.and_eq_true] at q
        exact ⟨(ro1 q.1).1.trans (ro2 q.2).1, (ro2 q.2).2.trans (ro1 q.1).2⟩
end
end Rm
/-! Rm, part V3: expressions by their meaning: names, operations, tests, displays, fields. -/
namespace Rm
open PySem PySem.Spec L2
open PyProof.Rows hiding St
variable [Tb]
section
variable {ca : Ks} {M P Z H H' Z' : Hp} {w fp : List Addr} {a p : Addr} {o : HO}
/-! ### new things -/
theorem Base.nin (b : Base P Z H w) (h : H p = none) : p ∉ w := fun q => (b.hw p q).nn h
theorem Base.zn (b : Base P Z H w) (h : H p = none) : Z p = none := by
  cases y : Z p with
  | none => rfl
  | some o => rw [b.z _ _ y] at h; cases h
theorem Base.mn (b : Base P Z H w) (h : H p = none) : P p = none := by
  cases y : P p with
  | none => rfl
  | some o => rw [b.m _ _ y] at h; cases h
theorem Base.ext (b : Base P Z H w) (x : Ext H H') : Base P Z H' w := ⟨fun a o q => x a o (b.z a o q), b.zw, fun a o q => x a o (b.m a o q), b.mw, b.nd, fun a q => (b.hw a q).keep (x a), ⟨b.tb.m, b.tb.z, b.tb.t.ext x⟩⟩
theorem Base.new (b : Base P Z H w) (h : H p = none) (ho : ownO o = true := by rfl) : Base P Z (upd H p o) (p :: w) := by
  have b1 := b.ext (Ext.new (o := o) h)
  refine ⟨b1.z, fun a q => ?_, b1.m, fun a q => ?_, List.nodup_cons.mpr ⟨b.nin h, b.nd⟩, fun a q => ?_, ⟨b.tb.m, b.tb.z, b.tb.t.ext (Ext.new h)⟩⟩
  · rcases List.mem_cons.mp q with rfl | q
    · exact b.zn h
    · exact b.zw a q
  · rcases List.mem_cons.mp q with rfl | q
    · exact b.mn h
    · exact b.mw a q
  · rcases List.mem_cons.mp q with rfl | q
    · exact ⟨o, upd_same, ho⟩
    · exact b1.hw a q
/-- what is new is frozen -/
theorem Base.newZ (b : Base P Z H w) (h : H p = none) (ho : ∀ ps, o ≠ .tbl ps := by exact fun _ z => nomatch z) : Base P (upd Z p o) (upd H p o) w := by
  have b1 := b.ext (Ext.new (o := o) h)
  refine ⟨fun a u q => ?_, fun a q => ?_, b1.m, b1.mw, b1.nd, b1.hw, ⟨b.tb.m, b.tb.z.upd ho, b.tb.t.ext (Ext.new h)⟩⟩
  · by_cases e : a = p
    · subst e; rw [upd_same] at q ⊢; exact q
    · rw [upd_ne e] at q ⊢; exact b.z a u q
  · have : a ≠ p := fun e => b.nin h (e ▸ q)
    rw [upd_ne this]; exact b.zw a q
theorem ZN.new (b : Base P Z H w) (h : H p = none) : ZN P Z (upd Z p o) := fun a q => by
  by_cases e : a = p
  · subst e; exact Or.inr (.of_none (b.mn h))
  · rw [upd_ne e] at q; exact Or.inl q
/-- what is owned is frozen -/
def fzZ (fp : List Addr) (H Z : Hp) : Hp := fun a => if a ∈ fp then H a else Z a
theorem fzZ_ext (b : Base P Z H (fp ++ w)) : Ext Z (fzZ fp H Z) := fun a o h => by
  unfold fzZ
  rw [if_neg (fun q => by rw [b.zw a (List.mem_append_left _ q)] at h; cases h)]; exact h
theorem fzZ_in (a : Addr) (h : a ∈ fp) : ∀ o, H a = some o → fzZ fp H Z a = some o := fun o e => by
  unfold fzZ
  rw [if_pos h]; exact e
theorem fzZ_zn (b : Base P Z H (fp ++ w)) : ZN P Z (fzZ fp H Z) := fun a h => by
  unfold fzZ at h
  split at h
  · rename_i q; exact Or.inr (.of_none (b.mw a (List.mem_append_left _ q)))
  · exact Or.inl h
theorem Base.fz (b : Base P Z H (fp ++ w)) : Base P (fzZ fp H Z) H w := ⟨fun a o h => by
  unfold fzZ at h
  split at h
  · exact h
  · exact b.z a o h, fun a h => by
  unfold fzZ
  rw [if_neg (fun q => (List.nodup_append.mp b.nd).2.2 a q a h rfl)]; exact b.zw a (List.mem_append_right _ h), b.m, fun a h => b.mw a (List.mem_append_right _ h), (List.nodup_append.mp b.nd).2.1, fun a h => b.hw a (List.mem_append_right _ h), ⟨b.tb.m, fun a ps e => by
  unfold fzZ at e
  split at e
  · rename_i q
    obtain ⟨u, e1, e2⟩ := b.hw a (List.mem_append_left _ q)
    rw [e] at e1; cases e1; cases e2
  · exact b.tb.z a ps e, b.tb.t⟩⟩
end
/-- what an operation gives -/
def Res (ca : Ks) (P Z H : Hp) (w : List Addr) (Q : VK) : Option Ent → Prop
  | some e => ∀ v H' Z' fp, Ext H H' → Ext Z Z' → ZN P Z Z' → Base P Z' H' (fp ++ w) → EntV ca H' Z' v e fp → Q v H'
  | none => False
inductive OwVs (ca : Ks) (H Z : Hp) : List V → List T → Prop
  | nil : OwVs ca H Z [] []
  | cons {v : V} {vs : List V} {t : T} {ts : List T} {g : List Addr} : Ow ca H Z v t g → OwVs ca H Z vs ts → OwVs ca H Z (v :: vs) (t :: ts)
theorem EntVs.ow {ca : Ks} {H Z : Hp} : ∀ {vs : List V} {es : List Ent} {fp : List Addr}, EntVs ca H Z vs es fp → OwVs ca H Z vs (es.map Ent.t)
  | _, _, _, .nil => .nil
  | _, _, _, .cons (.own h) A => .cons h (EntVs.ow A)
  | _, _, _, .cons (.vw h) A => .cons h (EntVs.ow A)
/-- an operation over trees -/
structure Prim (ca : Ks) (r : List V → Hp → VK → Prop) (p : List T → Option Ent) : Prop where
  go : ∀ (P Z H : Hp) (w : List Addr) (vs : List V) (ts : List T) (Q : VK), Base P Z H w → OwVs ca H Z vs ts → Res ca P Z H w Q (p ts) → r vs H Q
section
variable {ca : Ks} {P Z H : Hp} {w : List Addr} {Q : VK} {p : Addr} {xs : List V} {ts : List T}
theorem Res.now {e : Ent} {v : V} (h : Res ca P Z H w Q (some e)) (b : Base P Z H w) (ev : EntV ca H Z v e []) : Q v H := h v H Z [] (Ext.refl _) (Ext.refl _) ZN.refl b ev
theorem Res.lst (h : Res ca P Z H w Q (some (.own (.lst true ts)))) (b : Base P Z H w) (hp : H p = none) (A : OwA ca H Z xs ts []) : Q (.ref p) (upd H p (.lst xs)) :=
  h _ _ Z [p] (Ext.new hp) (Ext.refl _) ZN.refl (b.new hp) (.own (.lstO upd_same (OwA.any A)))
theorem Res.tup (h : Res ca P Z H w Q (some (.own (.tup ts)))) (b : Base P Z H w) (hp : H p = none) (A : OwA ca H Z xs ts []) : Q (.ref p) (upd H p (.tup xs)) :=
  h _ _ (upd Z p (.tup xs)) [] (Ext.new hp) (Ext.new (b.zn hp)) (ZN.new b hp) (b.newZ hp) (.own (.tup upd_same (OwA.mono (H := H) (Ext.new (b.zn hp)) (fun a q => absurd q List.not_mem_nil) A)))
end
def mPrim (p : List T → Option Ent) (ms : List Ent → R (List Ent)) : List Ent → R Ent := fun ρ => (ms ρ).bind fun es ρ' => match p (es.map Ent.t) with
  | some e => .ok e ρ'
  | none => .fail
section
variable {c : VC} {W : WX} {r1 r2 r3 : Bool} {t t1 t2 t3 : TE} {ta : TA} {m m1 m2 m3 : List Ent → R Ent} {ms : List Ent → R (List Ent)}
theorem SA.prim {r : List V → Hp → VK → Prop} {p : List T → Option Ent} (pr : Prim c.ca r p) (h : SA c W r1 ta ms) : SV c W r1 (fun σ H Q => ta σ H fun vs H1 => r vs H1 Q) (mPrim p ms) := by
  refine ⟨fun M P Z H σ ρ w Q mp b s hf => ?_⟩
  refine h.go M P Z H σ ρ w _ mp b s ?_
  unfold mPrim at hf
  cases e : ms ρ with
  | fail => rw [e] at hf; exact hf
  | err C d ρ' => rw [e] at hf; exact hf
  | ok es ρ' =>
    rw [e] at hf
    dsimp only [R.bind] at hf
    intro vs H1 Z1 fp w1 z1 n1 b1 ev s1 ro
    refine pr.go P Z1 H1 w1 vs _ Q b1.drop ev.ow ?_
    split at hf
    · rename_i e2 q
      rw [q]
      intro v H2 Z2 fp2 x2 z2 n2 b2 ev2
      exact hf v H2 Z2 fp2 w1 (z1.trans z2) (n1.trans n2) b2 ev2 (s1.mono z2 fun a q o y => x2 a o y) fun q => ⟨(ro q).1.trans x2, (ro q).2⟩
    · exact hf.elim
def r2L (r : R2) : List V → Hp → VK → Prop := fun vs H Q => match vs with
  | [x, y] => r x y H Q
  | _ => False
def r1L (r : V → Hp → VK → Prop) : List V → Hp → VK → Prop := fun vs H Q => match vs with
  | [x] => r x H Q
  | _ => False
def mOp (p : List T → Option Ent) (r2 : Bool) (m1 m2 : List Ent → R Ent) : List Ent → R Ent := mPrim p (mCons r2 m1 (mCons true m2 mNil))
theorem SV.op {r : R2} {p : List T → Option Ent} (pr : Prim c.ca (r2L r) p) (h1 : SV c W r1 t1 m1) (h2 : SV c W r2 t2 m2) : SV c W (r1 && r2) (tOp r t1 t2) (mOp p r2 m1 m2) := by
  have q := SA.prim pr (SA.cons h1 (SA.cons h2 SA.nil))
  rw [Bool.and_true] at q
  exact q
theorem SV.un {r : V → Hp → VK → Prop} {p : List T → Option Ent} (pr : Prim c.ca (r1L r) p) (h1 : SV c W r1 t1 m1) : SV c W r1 (tUn r t1) (mPrim p (mCons true m1 mNil)) := by
  have q := SA.prim pr (SA.cons h1 SA.nil)
  rw [Bool.and_true] at q
  exact q
/-! names, constants -/
def mName (i : Nat) : List Ent → R Ent := fun ρ => match ρ[i]? with
  | some (.own t) => .ok (.vw t) ρ
  | some (.vw t) => .ok (.vw t) ρ
  | _ => .fail
theorem sv_name {i : Nat} : SV c W true (tV i) (mName i) := by
  refine ⟨fun M P Z H σ ρ w Q mp b s hf => ?_⟩
  unfold mName at hf
  unfold tV
  split at hf
  · rename_i t e
    obtain ⟨x, l, f, r, e1, e2, sl, _⟩ := s.split e
    cases sl with
    | own h =>
      rw [e1]
      exact hf _ H Z [] w (Ext.refl _) ZN.refl b (.vw h) s fun _ => ⟨Ext.refl _, rfl⟩
  · rename_i t e
    obtain ⟨x, l, f, r, e1, e2, sl, _⟩ := s.split e
    cases sl with
    | vw h =>
      rw [e1]
      exact hf _ H Z [] w (Ext.refl _) ZN.refl b (.vw (h.mono (Ext.refl _) fun a _ o y => b.m a o (mp a o y))) s fun _ => ⟨Ext.refl _, rfl⟩
  · exact hf.elim
def mC (t : T) : List Ent → R Ent := fun ρ => .ok (.own t) ρ
theorem sv_c {v : V} {t : T} (h : ∀ (ca : Ks) (H Z : Hp), Ow ca H Z v t []) : SV c W true (tC v) (mC t) :=
  ⟨fun M P Z H σ ρ w Q mp b s hf => hf v H Z [] w (Ext.refl _) ZN.refl b (.own (h _ _ _)) s fun _ => ⟨Ext.refl _, rfl⟩⟩
/-! a frozen copy of what is at hand: an own tree is frozen -/
def Ent.fz : Ent → Option T
  | .own t => some t.frz
  | .vw t => if t.isF = true then some t else none
  | .no => none
  | .exc _ _ => none
def fzAll : List Ent → Option (List T)
  | [] => some []
  | e :: es => match e.fz, fzAll es with
    | some t, some ts => some (t :: ts)
    | _, _ => none
end
section
variable {ca : Ks} {P Z H : Hp} {w : List Addr}
theorem EntV.fz {v : V} {e : Ent} {fp : List Addr} {t : T} {Z' : Hp} (z : Ext Z Z') (hz : ∀ a ∈ fp, ∀ o, H a = some o → Z' a = some o) (h : EntV ca H Z v e fp) (q : e.fz = some t) : Ow ca H Z' v t [] := by
  cases h with
  | own h => cases q; exact h.frz z hz
  | @vw t' g h =>
    have q' : (if t'.isF = true then some t' else none) = some t := q
    split at q'
    · rename_i y
      cases q'
      obtain rfl := h.nof y
      exact Ow.mono (H := H) z (fun a q => absurd q List.not_mem_nil) h
    · cases q'
theorem EntVs.fz {Z' : Hp} (z : Ext Z Z') : ∀ {vs : List V} {es : List Ent} {fp : List Addr} {ts : List T}, (∀ a ∈ fp, ∀ o, H a = some o → Z' a = some o) → EntVs ca H Z vs es fp → fzAll es = some ts → OwA ca H Z' vs ts []
  | _, _, _, _, _, .nil, q => by cases q; exact .nil
  | _, _, _, _, hz, .cons h A, q => by
    unfold fzAll at q
    split at q
    · rename_i t ts q1 q2
      cases q
      exact .cons (f := []) (g := []) (h.fz z (fun a y => hz a (List.mem_append_left _ y)) q1) (EntVs.fz z (fun a y => hz a (List.mem_append_right _ y)) A q2)
    · cases q
end
def mSeq (tp : Bool) (ms : List Ent → R (List Ent)) : List Ent → R Ent := fun ρ => (ms ρ).bind fun es ρ' => match fzAll es with
  | some ts => if ts.length ≤ sizeLine then .ok (.own (if tp then .tup ts else .lst true ts)) ρ' else .fail
  | none => .fail
section
variable {c : VC} {W : WX} {r1 r2 r3 : Bool} {t t1 t2 t3 : TE} {ta : TA} {m m1 m2 m3 : List Ent → R Ent} {ms : List Ent → R (List Ent)}
theorem SA.seq (tp : Bool) (h : SA c W r1 ta ms) : SV c W r1 (if tp then tTup ta else tLst ta) (mSeq tp ms) := by
  refine ⟨fun M P Z H σ ρ w Q mp b s hf => ?_⟩
  have go : ta σ H fun xs H1 => xs.length ≤ sizeLine ∧ ∀ p, H1 p = none → Q (.ref p) (upd H1 p (if tp then .tup xs else .lst xs)) := by
    refine h.go M P Z H σ ρ w _ mp b s ?_
    unfold mSeq at hf
    cases e : ms ρ with
    | fail => rw [e] at hf; exact hf
    | err C d ρ' => rw [e] at hf; exact hf
    | ok es ρ' =>
      rw [e] at hf
      dsimp only [R.bind] at hf
      intro vs H1 Z1 fp w1 z1 n1 b1 ev s1 ro
      split at hf
      · rename_i ts q
        have A := ev.fz (Z' := fzZ fp H1 Z1) (fzZ_ext b1) (fun a y => fzZ_in a y) q
        have b2 := b1.fz
        have z2 := z1.trans (fzZ_ext b1)
        have n2 := n1.trans (fzZ_zn b1)
        have hl := A.length
        split at hf
        · rename_i hz
          refine ⟨by omega, fun p hp => ?_⟩
          have s2 := s1.mono (fzZ_ext b1) (fun a q o y => Ext.new (o := if tp = true then HO.tup vs else HO.lst vs) hp a o y)
          cases tp with
          | true =>
            exact hf _ _ (upd (fzZ fp H1 Z1) p (.tup vs)) [] w1 (z2.trans (Ext.new (b2.zn hp))) (n2.trans (ZN.new b2 hp)) (b2.newZ hp) (.own (.tup upd_same (OwA.mono (H := H1) (Ext.new (b2.zn hp)) (fun a q => absurd q List.not_mem_nil) A)))
              (s2.mono (Ext.new (b2.zn hp)) fun _ _ _ y => y) fun q => ⟨(ro q).1.trans (Ext.new hp), (ro q).2⟩
          | false =>
            exact hf _ _ (fzZ fp H1 Z1) [p] w1 z2 n2 (b2.new hp) (.own (.lstO upd_same (OwA.any A))) s2 fun q => ⟨(ro q).1.trans (Ext.new hp), (ro q).2⟩
        · exact hf.elim
      · exact hf.elim
  cases tp with
  | true => exact go
  | false => exact go
end
/-! ### tests -/
def FinT (c : VC) (W : WX) (ro : Bool) (M P Z H : Hp) (σ : St) (w : List Addr) (Q : Bool → Hp → Prop) : R Bool → Prop
  | .ok k ρ' => ∀ H' Z' w', Ext Z Z' → ZN P Z Z' → Base P Z' H' w' → Slots c.ca H' M Z' σ ρ' w' → (ro = true → Ext H H' ∧ w' = w) → Q k H'
  | .err C d ρ' => ∀ x vd H' Z' w', Ext Z Z' → ZN P Z Z' → Base P Z' H' w' → Z' x = some (.xd [(c.ef C, vd)]) → Ow c.ca H' Z' vd d [] → Slots c.ca H' M Z' σ ρ' w' → W (.ref (c.ca.cl C)) (some x) σ H'
  | .fail => False
structure ST (c : VC) (W : WX) (ro : Bool) (t : TT) (m : List Ent → R Bool) : Prop where
  go : ∀ (M P Z H : Hp) (σ : St) (ρ : List Ent) (w : List Addr) (Q : Bool → Hp → Prop), Ext M P → Base P Z H w → Slots c.ca H M Z σ ρ w → FinT c W ro M P Z H σ w Q (m ρ) → t σ H Q
def T.bool : T → Option Bool
  | .bl k => some k
  | _ => none
/-- what a value is as a test -/
def T.tru : T → Option Bool
  | .non => some false
  | .bl k => some k
  | .int i => some (i != 0)
  | .tup ts => some (!ts.isEmpty)
  | .lst _ ts => some (!ts.isEmpty)
  | _ => none
def mTest (f : T → Option Bool) (m : List Ent → R Ent) : List Ent → R Bool := fun ρ => (m ρ).bind fun e ρ' => match f e.t with
  | some k => .ok k ρ'
  | none => .fail
/-- one way or the other -/
def mBr {α : Type} (mt : List Ent → R Bool) (m1 m2 : List Ent → R α) : List Ent → R α := fun ρ => (mt ρ).bind fun k ρ' => if k = true then m1 ρ' else m2 ρ'
def mPure {α : Type} (a : α) : List Ent → R α := fun ρ => .ok a ρ
section
variable {c : VC} {W : WX} {r1 r2 r3 : Bool} {t t1 t2 t3 : TE} {tt tt1 tt2 : TT} {ta : TA} {m m1 m2 m3 : List Ent → R Ent} {mt mt1 mt2 : List Ent → R Bool} {ms : List Ent → R (List Ent)}
theorem OwA.isEmpty {ca : Ks} {H Z : Hp} {vs : List V} {ts : List T} {fp : List Addr} (A : OwA ca H Z vs ts fp) : vs.isEmpty = ts.isEmpty := by
  have := A.length
  cases vs <;> cases ts <;> first | rfl | (simp at this)
theorem EntV.ow {ca : Ks} {H Z : Hp} {v : V} {e : Ent} {fp : List Addr} (h : EntV ca H Z v e fp) : ∃ g, Ow ca H Z v e.t g := by
  cases h with
  | own h => exact ⟨_, h⟩
  | vw h => exact ⟨_, h⟩
theorem SV.test (h : SV c W r1 t m) : ST c W r1 (tTest t) (mTest T.bool m) := by
  refine ⟨fun M P Z H σ ρ w Q mp b s hf => ?_⟩
  refine h.go M P Z H σ ρ w _ mp b s ?_
  unfold mTest at hf
  cases e : m ρ with
  | fail => rw [e] at hf; exact hf
  | err C d ρ' => rw [e] at hf; exact hf
  | ok en ρ' =>
    rw [e] at hf
    dsimp only [R.bind] at hf
    intro v H1 Z1 fp w1 z1 n1 b1 ev s1 ro
    obtain ⟨g, o⟩ := ev.ow
    split at hf
    · rename_i k q
      unfold T.bool at q
      split at q
      · rename_i k' y
        cases q
        rw [y] at o
        cases o
        exact ⟨k, rfl, hf H1 Z1 w1 z1 n1 b1.drop s1 ro⟩
      · cases q
    · exact hf.elim
theorem SV.truth (h : SV c W r1 t m) : ST c W r1 (tTru t) (mTest T.tru m) := by
  refine ⟨fun M P Z H σ ρ w Q mp b s hf => ?_⟩
  refine h.go M P Z H σ ρ w _ mp b s ?_
  unfold mTest at hf
  cases e : m ρ with
  | fail => rw [e] at hf; exact hf
  | err C d ρ' => rw [e] at hf; exact hf
  | ok en ρ' =>
    rw [e] at hf
    dsimp only [R.bind] at hf
    intro v H1 Z1 fp w1 z1 n1 b1 ev s1 ro
    obtain ⟨g, o⟩ := ev.ow
    split at hf
    · rename_i k q
      have fin := hf H1 Z1 w1 z1 n1 b1.drop s1 ro
      have key : truN v H1 = some k := by
        generalize en.t = tr at o q
        cases o with
        | non => exact q
        | bl k => exact q
        | int i => exact q
        | str x => cases q
        | tup e A =>
          simp only [T.tru, Option.some.injEq] at q
          simp only [truN, rdo_of (b1.z _ _ e) (fun _ _ y => nomatch y), ← q, A.isEmpty]
        | lstF e A =>
          simp only [T.tru, Option.some.injEq] at q
          simp only [truN, rdo_of (b1.z _ _ e) (fun _ _ y => nomatch y), ← q, A.isEmpty]
        | lstO e A =>
          simp only [T.tru, Option.some.injEq] at q
          simp only [truN, rdo_of e (fun _ _ y => nomatch y), ← q, A.isEmpty]
        | @dctF a ks ps e k A => cases q
        | @dctO a ks ps fp e k A _ => cases q
        | dtpF e k A => cases q
        | dtpO e k A _ => cases q
        | insF e k A => cases q
        | insO e k A _ => cases q
        | scr e A => cases q
      simp only [key]
      exact fin
    · exact hf.elim
theorem FinE.go {M P Z Z1 H H1 : Hp} {σ : St} {w w1 : List Addr} {Q : VK} {x : R Ent} {r rr : Bool} (z1 : Ext Z Z1) (n1 : ZN P Z Z1) (ro1 : r1 = true → Ext H H1 ∧ w1 = w) (hq : r = true → r1 = true ∧ rr = true) (hf : FinE c W r M P Z H σ w Q x) : FinE c W rr M P Z1 H1 σ w1 Q x := by
  cases x with
  | fail => exact hf
  | err C d ρ2 => exact fun x vd H2 Z2 w2 z2 n2 => hf x vd H2 Z2 w2 (z1.trans z2) (n1.trans n2)
  | ok k2 ρ2 => exact fun v H2 Z2 fp w2 z2 n2 b2 ev s2 ro2 => hf v H2 Z2 fp w2 (z1.trans z2) (n1.trans n2) b2 ev s2 fun q => ⟨(ro1 (hq q).1).1.trans (ro2 (hq q).2).1, (ro2 (hq q).2).2.trans (ro1 (hq q).1).2⟩
theorem FinT.go {M P Z Z1 H H1 : Hp} {σ : St} {w w1 : List Addr} {Q : Bool → Hp → Prop} {x : R Bool} {r rr : Bool} (z1 : Ext Z Z1) (n1 : ZN P Z Z1) (ro1 : r1 = true → Ext H H1 ∧ w1 = w) (hq : r = true → r1 = true ∧ rr = true) (hf : FinT c W r M P Z H σ w Q x) : FinT c W rr M P Z1 H1 σ w1 Q x := by
  cases x with
  | fail => exact hf
  | err C d ρ2 => exact fun x vd H2 Z2 w2 z2 n2 => hf x vd H2 Z2 w2 (z1.trans z2) (n1.trans n2)
  | ok k2 ρ2 => exact fun H2 Z2 w2 z2 n2 b2 s2 ro2 => hf H2 Z2 w2 (z1.trans z2) (n1.trans n2) b2 s2 fun q => ⟨(ro1 (hq q).1).1.trans (ro2 (hq q).2).1, (ro2 (hq q).2).2.trans (ro1 (hq q).1).2⟩
theorem ST.and (h1 : ST c W r1 tt1 mt1) (h2 : ST c W r2 tt2 mt2) : ST c W (r1 && r2) (tAnd tt1 tt2) (mBr mt1 mt2 (mPure false)) := by
  refine ⟨fun M P Z H σ ρ w Q mp b s hf => ?_⟩
  refine h1.go M P Z H σ ρ w _ mp b s ?_
  unfold mBr at hf
  cases e : mt1 ρ with
  | fail => rw [e] at hf; exact hf
  | err C d ρ' => rw [e] at hf; exact hf
  | ok k ρ' =>
    rw [e] at hf
    dsimp only [R.bind] at hf
    intro H1 Z1 w1 z1 n1 b1 s1 ro1
    cases k with
    | false => exact hf H1 Z1 w1 z1 n1 b1 s1 fun q => ro1 (Bool.and_eq_true_iff.mp q).1
    | true =>
      refine h2.go M P Z1 H1 σ ρ' w1 Q mp b1 s1 ?_
      simp only [if_true] at hf
      exact FinT.go z1 n1 ro1 (fun q => Bool.and_eq_true_iff.mp q) hf
theorem ST.or (h1 : ST c W r1 tt1 mt1) (h2 : ST c W r2 tt2 mt2) : ST c W (r1 && r2) (tOr tt1 tt2) (mBr mt1 (mPure true) mt2) := by
  refine ⟨fun M P Z H σ ρ w Q mp b s hf => ?_⟩
  refine h1.go M P Z H σ ρ w _ mp b s ?_
  unfold mBr at hf
  cases e : mt1 ρ with
  | fail => rw [e] at hf; exact hf
  | err C d ρ' => rw [e] at hf; exact hf
  | ok k ρ' =>
    rw [e] at hf
    dsimp only [R.bind] at hf
    intro H1 Z1 w1 z1 n1 b1 s1 ro1
    cases k with
    | true => exact hf H1 Z1 w1 z1 n1 b1 s1 fun q => ro1 (Bool.and_eq_true_iff.mp q).1
    | false =>
      refine h2.go M P Z1 H1 σ ρ' w1 Q mp b1 s1 ?_
      simp only [Bool.false_eq_true, if_false] at hf
      exact FinT.go z1 n1 ro1 (fun q => Bool.and_eq_true_iff.mp q) hf
theorem ST.not (h1 : ST c W r1 tt1 mt1) : ST c W r1 (tNot tt1) (mBr mt1 (mPure false) (mPure true)) := by
  refine ⟨fun M P Z H σ ρ w Q mp b s hf => ?_⟩
  refine h1.go M P Z H σ ρ w _ mp b s ?_
  unfold mBr at hf
  cases e : mt1 ρ with
  | fail => rw [e] at hf; exact hf
  | err C d ρ' => rw [e] at hf; exact hf
  | ok k ρ' =>
    rw [e] at hf
    dsimp only [R.bind] at hf
    cases k with
    | true => exact hf
    | false => exact hf
/-- a value by a test -/
theorem ST.ife (h : ST c W r1 tt mt) (h1 : SV c W r2 t1 m1) (h2 : SV c W r3 t2 m2) : SV c W (r1 && (r2 && r3)) (tIf tt t1 t2) (mBr mt m1 m2) := by
  refine ⟨fun M P Z H σ ρ w Q mp b s hf => ?_⟩
  refine h.go M P Z H σ ρ w _ mp b s ?_
  unfold mBr at hf
  cases e : mt ρ with
  | fail => rw [e] at hf; exact hf
  | err C d ρ' => rw [e] at hf; exact hf
  | ok k ρ' =>
    rw [e] at hf
    dsimp only [R.bind] at hf
    intro H1 Z1 w1 z1 n1 b1 s1 ro1
    cases k with
    | true => exact h1.go M P Z1 H1 σ ρ' w1 Q mp b1 s1 (FinE.go z1 n1 ro1 (fun q => by simp only [Bool.and_eq_true] at q; exact ⟨q.1, q.2.1⟩) hf)
    | false => exact h2.go M P Z1 H1 σ ρ' w1 Q mp b1 s1 (FinE.go z1 n1 ro1 (fun q => by simp only [Bool.and_eq_true] at q; exact ⟨q.1, q.2.2⟩) hf)
/-- a and b, a or b, not a, as values -/
def mBool (m : List Ent → R Ent) : List Ent → R Bool := mTest T.bool m
theorem SV.and (h1 : SV c W r1 t1 m1) (h2 : SV c W r2 t2 m2) : SV c W (r1 && r2) (tAndV t1 t2) (mBr (mBool m1) m2 (mC (.bl false))) := by
  have q := ST.ife (SV.test h1) h2 (sv_c (c := c) (W := W) (v := .bl false) fun _ _ _ => .bl false)
  rw [Bool.and_true] at q
  refine ⟨fun M P Z H σ ρ w Q mp b s hf => ?_⟩
  exact q.go M P Z H σ ρ w Q mp b s hf
/-- a op b op' c -/
def mChain (p p' : List T → Option Ent) (r2 : Bool) (m1 m2 m3 : List Ent → R Ent) : List Ent → R Ent := fun ρ => (mCons r2 m1 (mCons true m2 mNil) ρ).bind fun es ρ1 => match es with
  | [e1, e2] => (match p [e1.t, e2.t] with
    | some (.own (.bl true)) => if e2.held = true then (m3 ρ1).bind fun e3 ρ2 => (match p' [e2.t, e3.t] with
      | some e => .ok e ρ2
      | none => .fail) else .fail
    | some (.own (.bl false)) => .ok (.own (.bl false)) ρ1
    | _ => .fail)
  | _ => .fail
end
end Rm
/-! Rm, part V4: operations over trees. -/
namespace Rm
open PySem PySem.Spec L2
open PyProof.Rows hiding St
variable [Tb]
section
variable {ca : Ks} {P Z H : Hp} {w : List Addr} {Q : VK} {v : V} {i : Int} {k : Bool} {x : Str} {a p : Addr} {xs : List V} {ts : List T} {g fp : List Addr} {t : T}
theorem ow_int (h : Ow ca H Z v (.int i) g) : v = .int i := by cases h; rfl
theorem ow_bl (h : Ow ca H Z v (.bl k) g) : v = .bl k := by cases h; rfl
theorem ow_str (h : Ow ca H Z v (.str x) g) : v = .str x := by cases h; rfl
theorem ow_non (h : Ow ca H Z v .non g) : v = .non := by cases h; rfl
theorem ow_tup (b : Base P Z H w) (h : Ow ca H Z v (.tup ts) g) : ∃ a xs, v = .ref a ∧ H a = some (.tup xs) ∧ Z a = some (.tup xs) ∧ OwA ca H Z xs ts [] := by
  cases h with
  | tup e A => exact ⟨_, _, rfl, b.z _ _ e, e, A⟩
theorem ow_lst (b : Base P Z H w) {o : Bool} (h : Ow ca H Z v (.lst o ts) g) : ∃ a xs f, v = .ref a ∧ H a = some (.lst xs) ∧ OwA ca H Z xs ts f := by
  cases h with
  | lstF e A => exact ⟨_, _, _, rfl, b.z _ _ e, A⟩
  | lstO e A => exact ⟨_, _, _, rfl, e, A⟩
theorem ow_dct (b : Base P Z H w) {o : Bool} {ps : List (Key × T)} (h : Ow ca H Z v (.dct o ps) g) : ∃ a ks f, v = .ref a ∧ rdo H a = some (.dK ks) ∧ ks.map (·.1) = ps.map (·.1) ∧ OwA ca H Z (ks.map (·.2)) (ps.map (·.2)) f := by
  cases h with
  | dctF e k A => exact ⟨_, _, _, rfl, b.z.o e, k, A⟩
  | dctO e k A _ => exact ⟨_, _, _, rfl, e, k, A⟩
theorem ow_dtp (b : Base P Z H w) {o : Bool} {ks : List (List Key)} {ts : List T} (h : Ow ca H Z v (.dtp o ks ts) g) : ∃ a kvs f, v = .ref a ∧ rdo H a = some (.dT kvs) ∧ kvs.map (·.1) = ks ∧ OwA ca H Z (kvs.map (·.2)) ts f := by
  cases h with
  | dtpF e k A => exact ⟨_, _, _, rfl, b.z.o e, k, A⟩
  | dtpO e k A _ => exact ⟨_, _, _, rfl, e, k, A⟩
theorem ow_ins (b : Base P Z H w) {o : Bool} {C : Str} {fs : List (Str × T)} (h : Ow ca H Z v (.ins o C fs) g) : ∃ a dx gs f, v = .ref a ∧ H a = some (.ins (ca.cl C) dx gs) ∧ gs.map (·.1) = fs.map (·.1) ∧ OwA ca H Z (gs.map (·.2)) (fs.map (·.2)) f := by
  cases h with
  | insF e k A => exact ⟨_, _, _, _, rfl, b.z _ _ e, k, A⟩
  | insO e k A _ => exact ⟨_, _, _, _, rfl, e, k, A⟩
theorem ow_scr (b : Base P Z H w) (h : Ow ca H Z v (.scr ts) g) : ∃ a xs, v = .ref a ∧ rdo H a = some (.lst xs) ∧ OwA ca H Z xs ts [] := by
  cases h with
  | scr e A => exact ⟨_, _, rfl, b.z.o e, A⟩
theorem OwA.get : ∀ {xs : List V} {ts : List T} {g : List Addr} {i : Nat} {t : T}, OwA ca H Z xs ts g → ts[i]? = some t → ∃ v f, xs[i]? = some v ∧ Ow ca H Z v t f
  | _, _, _, _, _, .nil, e => by simp at e
  | _, _, _, 0, _, .cons h A, e => by simp at e; subst e; exact ⟨_, _, rfl, h⟩
  | _, _, _, i + 1, _, .cons h A, e => by
    simp at e
    obtain ⟨v, f, q, o⟩ := OwA.get A e
    exact ⟨v, f, by simpa using q, o⟩
/-- items that are frozen -/
theorem OwA.froz (A : OwA ca H Z xs ts g) (h : T.isFA ts = true) : OwA ca H Z xs ts [] := by
  obtain rfl := A.nof h
  exact A
theorem OwA.app : ∀ {xs ys : List V} {ts us : List T}, OwA ca H Z xs ts [] → OwA ca H Z ys us [] → OwA ca H Z (xs ++ ys) (ts ++ us) [] := by
  intro xs
  induction xs with
  | nil => intro ys ts us A B; cases A; exact B
  | cons x xs ih =>
    intro ys ts us A B
    generalize hg : ([] : List Addr) = g0 at A
    cases A with
    | @cons _ _ t ts f g h A =>
      obtain ⟨rfl, rfl⟩ := List.append_eq_nil_iff.mp hg.symm
      exact .cons (f := []) (g := []) h (ih A B)
theorem OwA.cons0 {t : T} (A : OwA ca H Z xs ts []) (h : Ow ca H Z v t []) : OwA ca H Z (v :: xs) (t :: ts) [] := .cons (f := []) (g := []) h A
theorem OwA.inv0 {y : V} (A : OwA ca H Z (y :: xs) ts []) : ∃ t r, ts = t :: r ∧ Ow ca H Z y t [] ∧ OwA ca H Z xs r [] := by
  generalize hg : ([] : List Addr) = g0 at A
  cases A with
  | cons h A =>
    obtain ⟨rfl, rfl⟩ := List.append_eq_nil_iff.mp hg.symm
    exact ⟨_, _, rfl, h, A⟩
theorem OwA.take0 : ∀ {xs : List V} {ts : List T} (n : Nat), OwA ca H Z xs ts [] → OwA ca H Z (xs.take n) (ts.take n) []
  | _, _, 0, _ => .nil
  | [], _, n + 1, A => by cases A; exact .nil
  | x :: xs, _, n + 1, A => by
    obtain ⟨t, r, rfl, h, A⟩ := A.inv0
    exact (OwA.take0 n A).cons0 h
theorem OwA.drop0 : ∀ {xs : List V} {ts : List T} (n : Nat), OwA ca H Z xs ts [] → OwA ca H Z (xs.drop n) (ts.drop n) []
  | _, _, 0, A => A
  | [], _, n + 1, A => by cases A; exact .nil
  | x :: xs, _, n + 1, A => by
    obtain ⟨t, r, rfl, h, A⟩ := A.inv0
    exact OwA.drop0 n A
theorem OwVs.i1 {vs : List V} {t : T} (h : OwVs ca H Z vs [t]) : ∃ v g, vs = [v] ∧ Ow ca H Z v t g := by
  cases h with
  | cons h A => cases A; exact ⟨_, _, rfl, h⟩
theorem OwVs.i2 {vs : List V} {t u : T} (h : OwVs ca H Z vs [t, u]) : ∃ v g y f, vs = [v, y] ∧ Ow ca H Z v t g ∧ Ow ca H Z y u f := by
  cases h with
  | cons h A =>
    obtain ⟨y, f, rfl, q⟩ := A.i1
    exact ⟨_, _, _, _, rfl, h, q⟩
end
abbrev oI (i : Int) : Option Ent := some (.own (.int i))
abbrev oB (k : Bool) : Option Ent := some (.own (.bl k))
abbrev oS (x : Str) : Option Ent := some (.own (.str x))
/-! ### arithmetic -/
def pAdd : List T → Option Ent := fun ts => match ts with
  | [.int i, .int j] => oI (i + j)
  | [.int i, .bl k] => oI (i + b2i k)
  | [.str i, .str j] => if i.length + j.length ≤ sizeLine then oS (i ++ j) else none
  | [.lst _ xs, .lst _ ys] => if (T.isFA xs && T.isFA ys) = true ∧ xs.length + ys.length ≤ sizeLine then some (.own (.lst true (xs ++ ys))) else none
  | [.tup xs, .tup ys] => if xs.length + ys.length ≤ sizeLine then some (.own (.tup (xs ++ ys))) else none
  | _ => none
theorem pr_add {ca : Ks} : Prim ca (r2L rAdd) pAdd := ⟨fun P Z H w vs ts Q b o h => by
  unfold pAdd at h
  split at h
  · obtain ⟨x, g, y, f, rfl, h1, h2⟩ := o.i2
    obtain rfl := ow_int h1; obtain rfl := ow_int h2
    exact h.now b (.own (.int _))
  · obtain ⟨x, g, y, f, rfl, h1, h2⟩ := o.i2
    obtain rfl := ow_int h1; obtain rfl := ow_bl h2
    exact h.now b (.own (.int _))
  · obtain ⟨x, g, y, f, rfl, h1, h2⟩ := o.i2
    obtain rfl := ow_str h1; obtain rfl := ow_str h2
    split at h
    · rename_i hl
      exact ⟨hl, h.now b (.own (.str _))⟩
    · exact h.elim
  · obtain ⟨x, g, y, f, rfl, h1, h2⟩ := o.i2
    obtain ⟨a, us, _, rfl, e1, A1⟩ := ow_lst b h1
    obtain ⟨a', us', _, rfl, e2, A2⟩ := ow_lst b h2
    split at h
    · rename_i hl
      obtain ⟨hf, hl⟩ := hl
      simp only [Bool.and_eq_true] at hf
      simp only [r2L, rAdd, e1, e2]
      rw [← A1.length, ← A2.length] at hl
      exact ⟨hl, fun p hp => Res.lst h b hp ((A1.froz hf.1).app (A2.froz hf.2))⟩
    · exact h.elim
  · obtain ⟨x, g, y, f, rfl, h1, h2⟩ := o.i2
    obtain ⟨a, us, rfl, e1, z1, A1⟩ := ow_tup b h1
    obtain ⟨a', us', rfl, e2, z2, A2⟩ := ow_tup b h2
    split at h
    · rename_i hl
      simp only [r2L, rAdd, e1, e2]
      rw [← A1.length, ← A2.length] at hl
      refine ⟨hl, fun e => ?_, fun _ e => ?_, fun _ _ p hp => Res.tup h b hp (A1.app A2)⟩
      · subst e
        cases A1
        exact h.now b (.own (.tup z2 A2))
      · subst e
        cases A2
        rw [List.append_nil] at h
        exact h.now b (.own (.tup z1 A1))
    · exact h.elim
  · exact h.elim⟩
def pSub : List T → Option Ent := fun ts => match ts with
  | [.int i, .int j] => oI (i - j)
  | _ => none
theorem pr_sub {ca : Ks} : Prim ca (r2L rSub) pSub := ⟨fun P Z H w vs ts Q b o h => by
  unfold pSub at h
  split at h
  · obtain ⟨x, g, y, f, rfl, h1, h2⟩ := o.i2
    obtain rfl := ow_int h1; obtain rfl := ow_int h2
    exact h.now b (.own (.int _))
  · exact h.elim⟩
def mulB (i j : Int) : Bool := decide (Builtin.Int.intBits i ≤ 64) || decide (Builtin.Int.intBits j ≤ 64) || decide (Builtin.Int.intBits i + Builtin.Int.intBits j ≤ 134217727)
theorem mulB_ok {i j : Int} (h : mulB i j = true) : IntMulOk i j := by
  simp only [mulB, Bool.or_eq_true, decide_eq_true_eq] at h
  rcases h with (h | h) | h
  · exact .of_left h
  · exact .of_right h
  · intro c
    have c2 := (Bool.and_eq_true_iff.mp c).2
    unfold Builtin.Int.intTooBig at c2
    have c3 := of_decide_eq_true c2
    rw [show bitsLine = 134217728 from by decide] at c3
    omega
/-- a bound that stays stuck where its number is stuck (a comparison of whole numbers would count down from 2 ^ 62) -/
def okR : Int → Bool
  | .ofNat m => Nat.ble m 1152921504606846975
  | .negSucc m => Nat.ble m 1152921504606846975
theorem okR_le {n : Int} (h : okR n = true) : -(2 ^ 62) ≤ n ∧ n < 2 ^ 62 := by
  cases n with
  | ofNat m =>
    have h2 : m ≤ 1152921504606846975 := Nat.le_of_ble_eq_true h
    simp only [Int.ofNat_eq_natCast]
    omega
  | negSucc m =>
    have h2 : m ≤ 1152921504606846975 := Nat.le_of_ble_eq_true h
    omega
theorem okR_of {n : Int} (h : -1000000000000 ≤ n ∧ n ≤ 1000000000000) : okR n = true := by
  cases n with
  | ofNat m =>
    refine Nat.ble_eq_true_of_le ?_
    simp only [Int.ofNat_eq_natCast] at h
    omega
  | negSucc m => refine Nat.ble_eq_true_of_le ?_; omega
def pMul : List T → Option Ent := fun ts => match ts with
  | [.int i, .int j] => if mulB i j = true then oI (i * j) else none
  | [.str z, .int k] => if k = 0 ∨ k = 1 then oS (if k = 1 then z else Str.empty) else none
  | [.lst _ xs, .int k] => if T.isFA xs = true ∧ (okR k = true ∧ xs.length * k.toNat ≤ sizeLine) then some (.own (.lst true (List.replicate k.toNat xs).flatten)) else none
  | _ => none
theorem OwA.rep {ca : Ks} {H Z : Hp} {xs : List V} {ts : List T} (A : OwA ca H Z xs ts []) : ∀ n : Nat, OwA ca H Z (List.replicate n xs).flatten (List.replicate n ts).flatten []
  | 0 => .nil
  | n + 1 => by
    rw [List.replicate_succ, List.replicate_succ, List.flatten_cons, List.flatten_cons]
    exact A.app (OwA.rep A n)
theorem pr_mul {ca : Ks} : Prim ca (r2L rMul) pMul := ⟨fun P Z H w vs ts Q b o h => by
  unfold pMul at h
  split at h
  · obtain ⟨x, g, y, f, rfl, h1, h2⟩ := o.i2
    obtain rfl := ow_int h1; obtain rfl := ow_int h2
    split at h
    · rename_i q
      exact ⟨mulB_ok q, h.now b (.own (.int _))⟩
    · exact h.elim
  · obtain ⟨x, g, y, f, rfl, h1, h2⟩ := o.i2
    obtain rfl := ow_str h1; obtain rfl := ow_int h2
    split at h
    · rename_i q
      exact ⟨q, h.now b (.own (.str _))⟩
    · exact h.elim
  · obtain ⟨x, g, y, f, rfl, h1, h2⟩ := o.i2
    obtain ⟨a, us, _, rfl, e1, A1⟩ := ow_lst b h1
    obtain rfl := ow_int h2
    split at h
    · rename_i q
      simp only [r2L, rMul, e1]
      rw [← A1.length] at q
      have q2 := okR_le q.2.1
      exact ⟨⟨by omega, by omega, q.2.2⟩, fun p hp => Res.lst h b hp ((A1.froz q.1).rep _)⟩
    · exact h.elim
  · exact h.elim⟩
def pDiv : List T → Option Ent := fun ts => match ts with
  | [.int i, .int j] => if 0 < j ∧ j.natAbs < 1073741824 then oI (i / j) else none
  | _ => none
theorem pr_div {ca : Ks} : Prim ca (r2L rDiv) pDiv := ⟨fun P Z H w vs ts Q b o h => by
  unfold pDiv at h
  split at h
  · obtain ⟨x, g, y, f, rfl, h1, h2⟩ := o.i2
    obtain rfl := ow_int h1; obtain rfl := ow_int h2
    split at h
    · rename_i q
      exact ⟨q, h.now b (.own (.int _))⟩
    · exact h.elim
  · exact h.elim⟩
def pMod : List T → Option Ent := fun ts => match ts with
  | [.int i, .int j] => if 0 < j then oI (i % j) else none
  | _ => none
theorem pr_mod {ca : Ks} : Prim ca (r2L rMod) pMod := ⟨fun P Z H w vs ts Q b o h => by
  unfold pMod at h
  split at h
  · obtain ⟨x, g, y, f, rfl, h1, h2⟩ := o.i2
    obtain rfl := ow_int h1; obtain rfl := ow_int h2
    split at h
    · rename_i q
      exact ⟨q, h.now b (.own (.int _))⟩
    · exact h.elim
  · exact h.elim⟩
def pPow : List T → Option Ent := fun ts => match ts with
  | [.int i, .int j] => if 0 ≤ j ∧ (Builtin.Int.intBits i : Int) * j ≤ 2 ^ 27 then oI (i ^ j.toNat) else none
  | _ => none
theorem pr_pow {ca : Ks} : Prim ca (r2L rPow) pPow := ⟨fun P Z H w vs ts Q b o h => by
  unfold pPow at h
  split at h
  · obtain ⟨x, g, y, f, rfl, h1, h2⟩ := o.i2
    obtain rfl := ow_int h1; obtain rfl := ow_int h2
    split at h
    · rename_i q
      exact ⟨q, h.now b (.own (.int _))⟩
    · exact h.elim
  · exact h.elim⟩
/-! ### comparisons -/
def pLt : List T → Option Ent := fun ts => match ts with
  | [.int i, .int j] => oB (decide (i < j))
  | _ => none
theorem pr_lt {ca : Ks} : Prim ca (r2L rLt) pLt := ⟨fun P Z H w vs ts Q b o h => by
  unfold pLt at h
  split at h
  · obtain ⟨x, g, y, f, rfl, h1, h2⟩ := o.i2
    obtain rfl := ow_int h1; obtain rfl := ow_int h2
    exact h.now b (.own (.bl _))
  · exact h.elim⟩
def pGe : List T → Option Ent := fun ts => match ts with
  | [.int i, .int j] => oB (decide (j ≤ i))
  | _ => none
theorem pr_ge {ca : Ks} : Prim ca (r2L rGe) pGe := ⟨fun P Z H w vs ts Q b o h => by
  unfold pGe at h
  split at h
  · obtain ⟨x, g, y, f, rfl, h1, h2⟩ := o.i2
    obtain rfl := ow_int h1; obtain rfl := ow_int h2
    exact h.now b (.own (.bl _))
  · exact h.elim⟩
/-- == of data -/
def rEqS (neg : Bool) : R2 := fun x y H Q => ∃ d e, Dr H x d ∧ Dr H y e ∧ SeqAt.shaped d = true ∧ SeqAt.shaped e = true ∧ Q (.bl (if neg then !PyData.eqv d e else PyData.eqv d e)) H
theorem opEqS {X : Cx} (hu : X.A.units + 64 < cLine) : OpR X (compareOp .Eq) (fun x y H Q => rEqS false x y H Q ∨ rEqU x y H Q) := by
  intro pins s σ H x y v u Q I rx ry h
  rcases h with ⟨d, e, hd, he, sd, se, q⟩ | h
  · exact op_eqD hu pins s σ H _ _ v u Q I rx ry ⟨d, e, Dr.dp _ _ hd (SeqAt.canLay_of_shaped sd), Dr.dp _ _ he (SeqAt.canLay_of_shaped se), sd, se, q⟩
  · exact opEq hu pins s σ H _ _ v u Q I rx ry h
theorem opNeS {X : Cx} (hu : X.A.units + 64 < cLine) : OpR X (compareOp .NotEq) (fun x y H Q => rEqS true x y H Q ∨ rNeU x y H Q) := by
  intro pins s σ H x y v u Q I rx ry h
  rcases h with h | h
  rotate_left
  · exact opNe hu pins s σ H _ _ v u Q I rx ry h
  obtain ⟨d, e, hd, he, sd, se, q⟩ := h
  exact op_neD hu pins s σ H _ _ v u Q I rx ry ⟨d, e, Dr.dp _ _ hd (SeqAt.canLay_of_shaped sd), Dr.dp _ _ he (SeqAt.canLay_of_shaped se), sd, se, q⟩
def eqT0 (x y : T) : Option Bool := match x.data, y.data with
  | some d, some e => if (SeqAt.shaped d && SeqAt.shaped e) = true then some (PyData.eqv d e) else match x, y with
    | .dct _ _, .str _ => some false
    | _, _ => none
  | _, _ => none
def eqT (x y : T) : Option Bool := match x, y with
  | .str a, .str b => some (decide (a = b))
  | x, y => eqT0 x y
def pEq : List T → Option Ent := fun ts => match ts with
  | [x, y] => (eqT x y).map fun k => .own (.bl k)
  | _ => none
theorem pr_eq {ca : Ks} : Prim ca (r2L fun x y H Q => rEqS false x y H Q ∨ rEqU x y H Q) pEq := ⟨fun P Z H w vs ts Q b o h => by
  unfold pEq at h
  split at h
  · rename_i x y
    obtain ⟨v, g, u, f, rfl, h1, h2⟩ := o.i2
    unfold eqT at h
    split at h
    · obtain rfl := ow_str h1
      obtain rfl := ow_str h2
      refine Or.inr ?_
      simp only [rEqU, scal, if_true, V.str.injEq]
      exact h.now b (.own (.bl _))
    unfold eqT0 at h
    split at h
    · rename_i d e ed ee
      split at h
      · rename_i q
        simp only [Bool.and_eq_true] at q
        exact Or.inl ⟨d, e, h1.dr b.z ed, h2.dr b.z ee, q.1, q.2, h.now b (.own (.bl _))⟩
      · split at h
        · obtain ⟨a, ks, _, rfl, e1, _⟩ := ow_dct b h1
          obtain rfl := ow_str h2
          refine Or.inr ?_
          simp only [rEqU, scal, Bool.false_eq_true, if_false, eqR, e1, isCol, if_true]
          exact h.now b (.own (.bl _))
        · exact h.elim
    · exact h.elim
  · exact h.elim⟩
def pNe : List T → Option Ent := fun ts => match ts with
  | [.str a, .str b] => oB (!decide (a = b))
  | [x, y] => (match x.data, y.data with
    | some d, some e => if (SeqAt.shaped d && SeqAt.shaped e) = true then oB (!PyData.eqv d e) else none
    | _, _ => none)
  | _ => none
theorem pr_ne {ca : Ks} : Prim ca (r2L fun x y H Q => rEqS true x y H Q ∨ rNeU x y H Q) pNe := ⟨fun P Z H w vs ts Q b o h => by
  unfold pNe at h
  split at h
  · obtain ⟨v, g, u, f, rfl, h1, h2⟩ := o.i2
    obtain rfl := ow_str h1
    obtain rfl := ow_str h2
    refine Or.inr ?_
    simp only [rNeU, scal, if_true, V.str.injEq]
    exact h.now b (.own (.bl _))
  · rename_i x y _
    obtain ⟨v, g, u, f, rfl, h1, h2⟩ := o.i2
    split at h
    · rename_i d e ed ee
      split at h
      · rename_i q
        simp only [Bool.and_eq_true] at q
        exact Or.inl ⟨d, e, h1.dr b.z ed, h2.dr b.z ee, q.1, q.2, h.now b (.own (.bl _))⟩
      · exact h.elim
    · exact h.elim
  · exact h.elim⟩
def T.isNon : T → Bool
  | .non => true
  | _ => false
def pIs : List T → Option Ent := fun ts => match ts with
  | [.bl a, .bl b] => oB (decide (a = b))
  | [x, .non] => oB x.isNon
  | _ => none
theorem ow_isNon {ca : Ks} {H Z : Hp} {v : V} {t : T} {g : List Addr} (h : Ow ca H Z v t g) : decide (v = .non) = t.isNon := by
  cases h <;> rfl
theorem pr_is {ca : Ks} : Prim ca (r2L rIs) pIs := ⟨fun P Z H w vs ts Q b o h => by
  unfold pIs at h
  split at h
  · obtain ⟨v, g, u, f, rfl, h1, h2⟩ := o.i2
    obtain rfl := ow_bl h1; obtain rfl := ow_bl h2
    exact h.now b (.own (.bl _))
  · obtain ⟨v, g, u, f, rfl, h1, h2⟩ := o.i2
    obtain rfl := ow_non h2
    rw [← ow_isNon h1] at h
    have q := h.now b (.own (.bl _))
    show rIs v .non H Q
    unfold rIs
    cases v <;> exact q
  · exact h.elim⟩
end Rm
/-! Rm, part V5: more operations over trees: in, subscripts, built-in functions, fields. -/
namespace Rm
open PySem PySem.Spec L2
open PyProof.Rows hiding St
variable [Tb]
/-- a plain tree as a value -/
def T.flat : T → Option V
  | .non => some .non
  | .bl b => some (.bl b)
  | .int i => some (.int i)
  | .str x => some (.str x)
  | _ => none
def flatA : List T → Option (List V)
  | [] => some []
  | t :: ts => match t.flat, flatA ts with
    | some v, some vs => some (v :: vs)
    | _, _ => none
def T.key : T → Option Key
  | .int i => some (.inl i)
  | .str x => some (.inr x)
  | _ => none
def getK {κ α : Type} [DecidableEq κ] (ps : List (κ × α)) (k : κ) : Option α := (ps.find? fun p => decide (p.1 = k)).map (·.2)
section
variable {ca : Ks} {P Z H : Hp} {w : List Addr} {Q : VK} {v : V} {t : T} {g : List Addr} {xs : List V} {ts : List T}
theorem ow_flat {u : V} (h : Ow ca H Z v t g) (e : t.flat = some u) : v = u ∧ flatV v = true := by
  cases h <;> cases e <;> exact ⟨rfl, rfl⟩
theorem OwA.flat : ∀ {xs : List V} {ts : List T} {g : List Addr} {us : List V}, OwA ca H Z xs ts g → flatA ts = some us → xs = us ∧ xs.all flatV = true
  | _, _, _, _, .nil, e => by cases e; exact ⟨rfl, rfl⟩
  | _, _, _, _, .cons h A, e => by
    unfold flatA at e
    split at e
    · rename_i q1 q2
      cases e
      obtain ⟨rfl, f1⟩ := ow_flat h q1
      obtain ⟨rfl, f2⟩ := OwA.flat A q2
      exact ⟨rfl, by rw [List.all_cons, f1, f2]; rfl⟩
    · cases e
theorem ow_key {k : Key} (h : Ow ca H Z v t g) (e : t.key = some k) : keyOf v = some k ∧ v = kV k := by
  cases h <;> cases e <;> exact ⟨rfl, rfl⟩
/-- the item at a key, in both -/
theorem getK_rel {κ : Type} [DecidableEq κ] : ∀ {ks : List (κ × V)} {ps : List (κ × T)} {f : List Addr} {k : κ}, ks.map (·.1) = ps.map (·.1) → OwA ca H Z (ks.map (·.2)) (ps.map (·.2)) f →
    (getK ps k = none ∧ getK ks k = none) ∨ ∃ t v g, getK ps k = some t ∧ getK ks k = some v ∧ Ow ca H Z v t g
  | [], [], _, _, _, _ => Or.inl ⟨rfl, rfl⟩
  | [], _ :: _, _, _, e, _ => nomatch e
  | _ :: _, [], _, _, e, _ => nomatch e
  | (k1, v) :: ks, (k2, t) :: ps, _, k, e, A => by
    simp only [List.map_cons, List.cons.injEq] at e
    obtain ⟨rfl, e⟩ := e
    cases A with
    | cons h A =>
      by_cases q : k1 = k
      · refine Or.inr ⟨t, v, _, ?_, ?_, h⟩ <;> simp [getK, q]
      · have r := getK_rel (k := k) e A
        simpa only [getK, List.find?_cons, decide_eq_false q] using r
theorem getK_some {κ : Type} [DecidableEq κ] {ks : List (κ × V)} {ps : List (κ × T)} {f : List Addr} {k : κ} (ek : ks.map (·.1) = ps.map (·.1)) (A : OwA ca H Z (ks.map (·.2)) (ps.map (·.2)) f) : (getK ks k).isSome = (getK ps k).isSome := by
  rcases getK_rel (k := k) ek A with ⟨z1, z2⟩ | ⟨_, _, _, z1, z2, _⟩ <;> rw [z1, z2] <;> rfl
theorem valV_getK (ks : List (Key × V)) (k : Key) : valV ks k = getK ks k := rfl
theorem look_getK (fs : List (Str × V)) (x : Str) : fs.lookup x = getK fs x := by
  induction fs with
  | nil => rfl
  | cons a r ih =>
    rw [List.lookup_cons]
    by_cases q : a.1 = x
    · simp [getK, q]
    · have q2 : (x == a.1) = false := by simpa using fun z => q z.symm
      rw [q2]
      simpa [getK, q] using ih
end
/-! ### in -/
def memT (neg : Bool) (x y : T) : Option Bool := match y with
  | .lst _ ts | .tup ts => (match x.flat, flatA ts with
    | some v, some vs => some (if neg then !inV v vs else inV v vs)
    | _, _ => none)
  | .dct _ ps => (match x.key with
    | some k => some (if neg then !(getK ps k).isSome else (getK ps k).isSome)
    | none => none)
  | _ => none
def pMem (neg : Bool) : List T → Option Ent := fun ts => match ts with
  | [x, y] => (memT neg x y).map fun k => .own (.bl k)
  | _ => none
theorem pr_mem {ca : Ks} (neg : Bool) : Prim ca (r2L (rMem neg)) (pMem neg) := ⟨fun P Z H w vs ts Q b o h => by
  unfold pMem at h
  split at h
  · rename_i x y
    obtain ⟨v, g, u, f, rfl, h1, h2⟩ := o.i2
    unfold memT at h
    split at h
    · obtain ⟨a, us, _, rfl, e1, A⟩ := ow_lst b h2
      split at h
      · rename_i q1 q2
        obtain ⟨rfl, f1⟩ := ow_flat h1 q1
        obtain ⟨rfl, f2⟩ := A.flat q2
        simp only [r2L, rMem, rdo_of e1 (fun _ _ y => nomatch y)]
        exact ⟨⟨f1, f2⟩, h.now b (.own (.bl _))⟩
      · exact h.elim
    · obtain ⟨a, us, rfl, e1, _, A⟩ := ow_tup b h2
      split at h
      · rename_i q1 q2
        obtain ⟨rfl, f1⟩ := ow_flat h1 q1
        obtain ⟨rfl, f2⟩ := A.flat q2
        simp only [r2L, rMem, rdo_of e1 (fun _ _ y => nomatch y)]
        exact ⟨⟨f1, f2⟩, h.now b (.own (.bl _))⟩
      · exact h.elim
    · obtain ⟨a, ks, _, rfl, e1, ek, A⟩ := ow_dct b h2
      split at h
      · rename_i k q1
        simp only [r2L, rMem, e1, (ow_key h1 q1).1, valV_getK]
        rw [getK_some (k := k) ek A]
        exact h.now b (.own (.bl _))
      · exact h.elim
    · exact h.elim
  · exact h.elim⟩
/-- x in a module's tuple of plain items -/
def pInC (neg : Bool) (xs : List V) : List T → Option Ent := fun ts => match ts with
  | [x] => (match x.flat with
    | some v => if xs.all flatV = true then oB (if neg then !inV v xs else inV v xs) else none
    | none => (match x with
      | _ => none))
  | _ => none
/-! ### subscripts -/
def keysT : List T → Option (List Key)
  | [] => some []
  | t :: ts => match t.key, keysT ts with
    | some k, some ks => some (k :: ks)
    | _, _ => none
def getZ : List (List Key) → List T → List Key → Option T
  | k :: ks, t :: ts, x => if k = x then some t else getZ ks ts x
  | _, _, _ => none
theorem keysT_ow {ca : Ks} {H Z : Hp} : ∀ {xs : List V} {ts : List T} {g : List Addr} {ks : List Key}, OwA ca H Z xs ts g → keysT ts = some ks → keysOf xs = some ks
  | _, _, _, _, .nil, e => by cases e; rfl
  | _, _, _, _, .cons h A, e => by
    unfold keysT at e
    split at e
    · rename_i k ks e1 e2
      cases e
      unfold keysOf
      rw [(ow_key h e1).1, keysT_ow A e2]
    · cases e
theorem getZ_rel {ca : Ks} {H Z : Hp} {x : List Key} {t : T} : ∀ {kvs : List (List Key × V)} {ks : List (List Key)} {ts : List T} {f : List Addr}, kvs.map (·.1) = ks → OwA ca H Z (kvs.map (·.2)) ts f → getZ ks ts x = some t → ∃ v f', valV kvs x = some v ∧ Ow ca H Z v t f'
  | [], _, _, _, rfl, A, e => by cases A; cases e
  | (k, v) :: kvs, _, _, _, rfl, A, e => by
    cases A with
    | @cons _ _ t1 ts f g h A =>
      rw [List.map_cons, getZ] at e
      split at e
      · rename_i q
        cases e
        exact ⟨v, f, valV_pos q, h⟩
      · rename_i q
        obtain ⟨v', f', h1, h2⟩ := getZ_rel rfl A e
        exact ⟨v', f', by rw [valV_neg q]; exact h1, h2⟩
def itemT (x y : T) : Option T := match x with
  | .lst _ ts | .tup ts | .scr ts => (match y with
    | .int i => atI ts i
    | _ => none)
  | .dct _ ps => (match y.key with
    | some k => getK ps k
    | none => none)
  | .dtp _ ks ts => (match y with
    | .tup us => (match keysT us with
      | some k => getZ ks ts k
      | none => none)
    | _ => none)
  | .str z => (match y with
    | .int i => if z.length ≤ sizeLine then (match atI z.cps.toList i with
      | some c => some (.str ⟨#[c]⟩)
      | none => none) else none
    | _ => none)
  | _ => none
def pItem : List T → Option Ent := fun ts => match ts with
  | [x, y] => (itemT x y).map .vw
  | _ => none
theorem atI_rel {ca : Ks} {H Z : Hp} {xs : List V} {ts : List T} {g : List Addr} {i : Int} {t : T} (A : OwA ca H Z xs ts g) (h : atI ts i = some t) : ∃ v f, atI xs i = some v ∧ Ow ca H Z v t f := by
  unfold atI at h ⊢
  rw [A.length]
  cases q : ixN ts.length i with
  | none => rw [q] at h; cases h
  | some j =>
    rw [q] at h
    exact A.get h
theorem pr_item {ca : Ks} : Prim ca (r2L rItem) pItem := ⟨fun P Z H w vs ts Q b o h => by
  unfold pItem at h
  split at h
  · rename_i x y
    obtain ⟨v, g, u, f, rfl, h1, h2⟩ := o.i2
    cases e : itemT x y with
    | none => rw [e] at h; exact h.elim
    | some t =>
      rw [e] at h
      unfold itemT at e
      split at e
      · obtain ⟨a, us, _, rfl, e1, A⟩ := ow_lst b h1
        split at e
        · obtain rfl := ow_int h2
          obtain ⟨v, f, q, o⟩ := atI_rel A e
          simp only [r2L, rItem, rdo_of e1 (fun _ _ y => nomatch y), q]
          exact h.now b (.vw o)
        · cases e
      · obtain ⟨a, us, rfl, e1, _, A⟩ := ow_tup b h1
        split at e
        · obtain rfl := ow_int h2
          obtain ⟨v, f, q, o⟩ := atI_rel A e
          simp only [r2L, rItem, rdo_of e1 (fun _ _ y => nomatch y), q]
          exact h.now b (.vw o)
        · cases e
      · obtain ⟨a, us, rfl, e1, A⟩ := ow_scr b h1
        split at e
        · obtain rfl := ow_int h2
          obtain ⟨v, f, q, o⟩ := atI_rel A e
          simp only [r2L, rItem, e1, q]
          exact h.now b (.vw o)
        · cases e
      · obtain ⟨a, ks, _, rfl, e1, ek, A⟩ := ow_dct b h1
        split at e
        · rename_i k q1
          rcases getK_rel (k := k) ek A with ⟨z1, _⟩ | ⟨t', v', f', z1, z2, o⟩
          · rw [z1] at e; cases e
          · rw [z1] at e; cases e
            simp only [r2L, rItem, e1, (ow_key h2 q1).1, valV_getK, z2]
            exact h.now b (.vw o)
        · cases e
      · obtain ⟨a, kvs, _, rfl, e1, ek, A⟩ := ow_dtp b h1
        split at e
        · obtain ⟨c, ys, rfl, f1, _, A2⟩ := ow_tup b h2
          split at e
          · rename_i k q1
            obtain ⟨v', f', z1, o⟩ := getZ_rel ek A e
            simp only [r2L, rItem, e1, f1, keysT_ow A2 q1, z1]
            exact h.now b (.vw o)
          · cases e
        · cases e
      · obtain rfl := ow_str h1
        split at e
        · obtain rfl := ow_int h2
          split at e
          · rename_i hl
            split at e
            · rename_i c q
              cases e
              simp only [r2L, rItem, q]
              exact ⟨hl, h.now b (.vw (.str _))⟩
            · cases e
          · cases e
        · cases e
      · cases e
  · exact h.elim⟩
/-! ### built-in functions -/
def pLen : List T → Option Ent := fun ts => match ts with
  | [.lst _ xs] | [.tup xs] | [.scr xs] => oI xs.length
  | [.dct _ ps] => oI ps.length
  | [.str z] => if z.length ≤ sizeLine then oI z.length else none
  | _ => none
theorem pr_len {ca : Ks} : Prim ca rLen pLen := ⟨fun P Z H w vs ts Q b o h => by
  unfold pLen at h
  split at h
  · obtain ⟨v, g, rfl, h1⟩ := o.i1
    obtain ⟨a, us, _, rfl, e1, A⟩ := ow_lst b h1
    simp only [rLen, rdo_of e1 (fun _ _ y => nomatch y)]
    rw [A.length]; exact h.now b (.own (.int _))
  · obtain ⟨v, g, rfl, h1⟩ := o.i1
    obtain ⟨a, us, rfl, e1, _, A⟩ := ow_tup b h1
    simp only [rLen, rdo_of e1 (fun _ _ y => nomatch y)]
    rw [A.length]; exact h.now b (.own (.int _))
  · obtain ⟨v, g, rfl, h1⟩ := o.i1
    obtain ⟨a, us, rfl, e1, A⟩ := ow_scr b h1
    simp only [rLen, e1]
    rw [A.length]; exact h.now b (.own (.int _))
  · obtain ⟨v, g, rfl, h1⟩ := o.i1
    obtain ⟨a, ks, _, rfl, e1, ek, A⟩ := ow_dct b h1
    simp only [rLen, e1]
    have hl := congrArg List.length ek
    rw [List.length_map, List.length_map] at hl
    rw [hl]; exact h.now b (.own (.int _))
  · obtain ⟨v, g, rfl, h1⟩ := o.i1
    obtain rfl := ow_str h1
    split at h
    · rename_i hl
      exact ⟨hl, h.now b (.own (.int _))⟩
    · exact h.elim
  · exact h.elim⟩
def pInt : List T → Option Ent := fun ts => match ts with
  | [.int i] => oI i
  | [.bl k] => oI (if k then 1 else 0)
  | _ => none
theorem pr_int {ca : Ks} : Prim ca rInt pInt := ⟨fun P Z H w vs ts Q b o h => by
  unfold pInt at h
  split at h
  · obtain ⟨v, g, rfl, h1⟩ := o.i1
    obtain rfl := ow_int h1
    exact h.now b (.own (.int _))
  · obtain ⟨v, g, rfl, h1⟩ := o.i1
    obtain rfl := ow_bl h1
    exact h.now b (.own (.int _))
  · exact h.elim⟩
def pMax : List T → Option Ent := fun ts => match ts with
  | [.int i, .int j] => oI (if j > i then j else i)
  | _ => none
theorem pr_max {ca : Ks} : Prim ca rMax pMax := ⟨fun P Z H w vs ts Q b o h => by
  unfold pMax at h
  split at h
  · obtain ⟨x, g, y, f, rfl, h1, h2⟩ := o.i2
    obtain rfl := ow_int h1; obtain rfl := ow_int h2
    exact h.now b (.own (.int _))
  · exact h.elim⟩
def pMin : List T → Option Ent := fun ts => match ts with
  | [.int i, .int j] => oI (if j < i then j else i)
  | _ => none
theorem pr_min {ca : Ks} : Prim ca rMin pMin := ⟨fun P Z H w vs ts Q b o h => by
  unfold pMin at h
  split at h
  · obtain ⟨x, g, y, f, rfl, h1, h2⟩ := o.i2
    obtain rfl := ow_int h1; obtain rfl := ow_int h2
    exact h.now b (.own (.int _))
  · exact h.elim⟩
def T.ty : T → Option String
  | .non => some "NoneType"
  | .bl _ => some "bool"
  | .int _ => some "int"
  | .str _ => some "str"
  | .tup _ => some "tuple"
  | .lst _ _ => some "list"
  | .scr _ => some "list"
  | .dct _ _ => some "dict"
  | _ => none
def pIsi (cs : String) : List T → Option Ent := fun ts => match ts with
  | [x] => (match x.ty with
    | some n => if okCls.contains cs = true then oB (subN n cs) else none
    | none => none)
  | _ => none
theorem ow_ty {ca : Ks} {P Z H : Hp} {w : List Addr} {v : V} {t : T} {g : List Addr} {n : String} (b : Base P Z H w) (h : Ow ca H Z v t g) (e : t.ty = some n) : tyN v H = some n := by
  cases t with
  | non => rw [ow_non h]; exact e
  | bl k => rw [ow_bl h]; exact e
  | int i => rw [ow_int h]; exact e
  | str x => rw [ow_str h]; exact e
  | tup ts =>
    obtain ⟨a, us, rfl, e1, _, A⟩ := ow_tup b h
    simp only [tyN, rdo_of e1 (fun _ _ y => nomatch y)]; exact e
  | lst o ts =>
    obtain ⟨a, us, _, rfl, e1, A⟩ := ow_lst b h
    simp only [tyN, rdo_of e1 (fun _ _ y => nomatch y)]; exact e
  | dct o ps =>
    obtain ⟨a, ks, _, rfl, e1, ek, A⟩ := ow_dct b h
    simp only [tyN, e1]; exact e
  | dtp _ _ _ => cases e
  | ins o C fs => cases e
  | scr ts =>
    obtain ⟨a, us, rfl, e1, A⟩ := ow_scr b h
    simp only [tyN, e1]; exact e
theorem pr_isi {ca : Ks} (cs : String) : Prim ca (r1L fun x H Q => rIsi [x, .ty cs] H Q) (pIsi cs) := ⟨fun P Z H w vs ts Q b o h => by
  unfold pIsi at h
  split at h
  · obtain ⟨v, g, rfl, h1⟩ := o.i1
    split at h
    · rename_i n e
      split at h
      · rename_i q
        show rIsi [v, .ty cs] H Q
        simp only [rIsi, ow_ty b h1 e]
        exact ⟨by simpa using q, h.now b (.own (.bl _))⟩
      · exact h.elim
    · exact h.elim
  · exact h.elim⟩
def pRepr : List T → Option Ent := fun ts => match ts with
  | [x] => (match x.data with
    | some d => if d.showable = true ∧ d.shown.length ≤ sizeLine ∧ d.depth ≤ 60 then oS d.shown else none
    | none => none)
  | _ => none
theorem pr_repr {ca : Ks} : Prim ca rRepr pRepr := ⟨fun P Z H w vs ts Q b o h => by
  unfold pRepr at h
  split at h
  · obtain ⟨v, g, rfl, h1⟩ := o.i1
    split at h
    · rename_i d e
      split at h
      · rename_i q
        exact ⟨v, d, rfl, h1.dr b.z e, q.1, q.2.1, q.2.2, h.now b (.own (.str _))⟩
      · exact h.elim
    · exact h.elim
  · exact h.elim⟩
/-! ### slices -/
def cutT {α : Type} (xs : List α) (lo hi : Option Int) : List α := (xs.drop (HT.sIx xs.length 0 lo)).take (HT.sIx xs.length xs.length hi - HT.sIx xs.length 0 lo)
def pSl (lo hi : Option Int) : List T → Option Ent := fun ts => match ts with
  | [.str z] => if z.length ≤ sizeLine then oS (cutS z lo hi) else none
  | [.lst _ xs] => if T.isFA xs = true then some (.own (.lst true (cutT xs lo hi))) else none
  | [.tup xs] => some (.own (.tup (cutT xs lo hi)))
  | _ => none
theorem pr_sl {ca : Ks} (lo hi : Option Int) : Prim ca (r1L fun x H Q => rSlice x lo hi H Q) (pSl lo hi) := ⟨fun P Z H w vs ts Q b o h => by
  unfold pSl at h
  split at h
  · obtain ⟨v, g, rfl, h1⟩ := o.i1
    obtain rfl := ow_str h1
    split at h
    · rename_i hl
      exact ⟨hl, h.now b (.own (.str _))⟩
    · exact h.elim
  · obtain ⟨v, g, rfl, h1⟩ := o.i1
    obtain ⟨a, us, _, rfl, e1, A⟩ := ow_lst b h1
    split at h
    · rename_i q
      simp only [r1L, rSlice, rdo_of e1 (fun _ _ y => nomatch y)]
      unfold cutT at h
      rw [← A.length] at h
      exact fun p hp => Res.lst h b hp (((A.froz q).drop0 _).take0 _)
    · exact h.elim
  · obtain ⟨v, g, rfl, h1⟩ := o.i1
    obtain ⟨a, us, rfl, e1, z1, A⟩ := ow_tup b h1
    simp only [r1L, rSlice, rdo_of e1 (fun _ _ y => nomatch y)]
    unfold cutT at h
    rw [← A.length] at h
    refine ⟨fun q => ?_, fun _ p hp => Res.tup h b hp ((A.drop0 _).take0 _)⟩
    rw [q.1, q.2, Nat.sub_zero, List.drop_zero, A.length, List.take_length] at h
    exact h.now b (.own (.tup z1 A))
  · exact h.elim⟩
/-! ### fields -/
def pFld (C f : Str) : List T → Option Ent := fun ts => match ts with
  | [.ins _ C' fs] => if C' = C then (getK fs f).map .vw else none
  | _ => none
def rFld (C : Addr) (f : Str) : V → Hp → VK → Prop := fun x H1 Q => match x with
  | .ref a => (match H1 a with
    | some (.ins C' _ fs) => C' = C ∧ (match fs.lookup f with
      | some v => Q v H1
      | none => False)
    | _ => False)
  | _ => False
theorem tF_un (C : Addr) (f : Str) (to : TE) : tF C f to = tUn (rFld C f) to := rfl
theorem pr_fld {ca : Ks} (C f : Str) : Prim ca (r1L (rFld (ca.cl C) f)) (pFld C f) := ⟨fun P Z H w vs ts Q b o h => by
  unfold pFld at h
  split at h
  · obtain ⟨v, g, rfl, h1⟩ := o.i1
    obtain ⟨a, dx, gs, _, rfl, e1, ek, A⟩ := ow_ins b h1
    split at h
    · rename_i q
      subst q
      rcases getK_rel (k := f) ek A with ⟨z1, _⟩ | ⟨t', v', f', z1, z2, o⟩
      · rw [z1] at h; exact h.elim
      · rw [z1] at h
        simp only [r1L, rFld, e1, look_getK, z2]
        exact ⟨trivial, h.now b (.vw o)⟩
    · exact h.elim
  · exact h.elim⟩
section
variable {c : VC} {W : WX} {r1 r2 r3 : Bool} {t t1 t2 t3 : TE} {m m1 m2 m3 : List Ent → R Ent}
theorem SV.fld (C f : Str) (h : SV c W r1 t m) : SV c W r1 (tF (c.ca.cl C) f t) (mPrim (pFld C f) (mCons true m mNil)) := by
  rw [tF_un]; exact SV.un (pr_fld C f) h
/-- x in CONST -/
theorem SV.inC (neg : Bool) {xs : List V} {g : Hp → (Hp → Prop) → Prop} (hg : ∀ (H : Hp) (q : Hp → Prop), (∀ H', Ext H H' → q H') → g H q) (h : SV c W r1 t m) : SV c W r1 (tInC neg xs g t) (mPrim (pInC neg xs) (mCons true m mNil)) := by
  have q := SV.un (r := fun v H1 Q => flatV v = true ∧ xs.all flatV = true ∧ g H1 fun H2 => Q (.bl (if neg then !inV v xs else inV v xs)) H2) (p := pInC neg xs) ⟨fun P Z H w vs ts Q b o h => by
    unfold pInC at h
    split at h
    · obtain ⟨v, g', rfl, h1⟩ := o.i1
      split at h
      · rename_i u e
        obtain ⟨rfl, fv⟩ := ow_flat h1 e
        split at h
        · rename_i fx
          exact ⟨fv, fx, hg _ _ fun H' x => h _ H' Z [] x (Ext.refl _) ZN.refl (b.ext x) (.own (.bl _))⟩
        · exact h.elim
      · exact h.elim
    · exact h.elim⟩ h
  exact q
theorem gC_x (H : Hp) (q : Hp → Prop) (h : ∀ H', Ext H H' → q H') : gC H q := h H (Ext.refl H)
/-- isinstance -/
theorem SV.isi (cs : String) (h : SV c W r1 t m) : SV c W r1 (tCB rIsi (tCons t (tCons (tC (.ty cs)) tNil))) (mPrim (pIsi cs) (mCons true m mNil)) := SV.un (pr_isi cs) h
/-- e[a:b] -/
def mPart (m : List Ent → R Ent) : List Ent → R (Option Int) := fun ρ => (m ρ).bind fun e ρ' => match e.t with
  | .int i => .ok (some i) ρ'
  | _ => .fail
def mSlice (m : List Ent → R Ent) (ml mh : List Ent → R (Option Int)) : List Ent → R Ent := fun ρ => (m ρ).bind fun e ρ1 => (ml ρ1).bind fun l ρ2 => (mh ρ2).bind fun u ρ3 => match pSl l u [e.t] with
  | some x => .ok x ρ3
  | none => .fail
/-- the parts of a slice that only read -/
structure SO (c : VC) (W : WX) (t : TO) (m : List Ent → R (Option Int)) : Prop where
  go : ∀ (M P Z H : Hp) (σ : St) (ρ : List Ent) (w : List Addr) (Q : Option Int → Hp → Prop), Ext M P → Base P Z H w → Slots c.ca H M Z σ ρ w → (match m ρ with
    | .ok o ρ' => ∀ H' Z', Ext Z Z' → ZN P Z Z' → Base P Z' H' w → Slots c.ca H' M Z' σ ρ' w → Ext H H' → Q o H'
    | .err C d ρ' => ∀ x vd H' Z' w', Ext Z Z' → ZN P Z Z' → Base P Z' H' w' → Z' x = some (.xd [(c.ef C, vd)]) → Ow c.ca H' Z' vd d [] → Slots c.ca H' M Z' σ ρ' w' → W (.ref (c.ca.cl C)) (some x) σ H'
    | .fail => False) → t σ H Q
theorem SO.none : SO c W tNoPart (mPure none) := ⟨fun M P Z H σ ρ w Q mp b s h => h H Z (Ext.refl _) ZN.refl b s (Ext.refl _)⟩
theorem SO.some (h : SV c W true t m) : SO c W (tPart t) (mPart m) := by
  refine ⟨fun M P Z H σ ρ w Q mp b s hf => ?_⟩
  refine h.go M P Z H σ ρ w _ mp b s ?_
  unfold mPart at hf
  cases e : m ρ with
  | fail => rw [e] at hf; exact hf
  | err C d ρ' => rw [e] at hf; exact hf
  | ok en ρ' =>
    rw [e] at hf
    dsimp only [R.bind] at hf
    intro v H1 Z1 fp w1 z1 n1 b1 ev s1 ro
    obtain ⟨g, o⟩ := ev.ow
    obtain ⟨x1, rfl⟩ := ro rfl
    cases q : en.t with
    | int j =>
      rw [q] at o hf
      cases o
      exact ⟨j, rfl, hf H1 Z1 z1 n1 b1.drop s1 x1⟩
    | non => rw [q] at hf; exact hf.elim
    | bl k => rw [q] at hf; exact hf.elim
    | str k => rw [q] at hf; exact hf.elim
    | tup k => rw [q] at hf; exact hf.elim
    | lst k l => rw [q] at hf; exact hf.elim
    | dct k l => rw [q] at hf; exact hf.elim
    | dtp _ _ _ => rw [q] at hf; exact hf.elim
    | ins k l n => rw [q] at hf; exact hf.elim
    | scr k => rw [q] at hf; exact hf.elim
theorem SV.slice {tl th : TO} {ml mh : List Ent → R (Option Int)} (h : SV c W r1 t m) (hl : SO c W tl ml) (hh : SO c W th mh) : SV c W r1 (tSl rSlice t tl th) (mSlice m ml mh) := by
  refine ⟨fun M P Z H σ ρ w Q mp b s hf => ?_⟩
  refine h.go M P Z H σ ρ w _ mp b s ?_
  unfold mSlice at hf
  cases e : m ρ with
  | fail => rw [e] at hf; exact hf
  | err C d ρ' => rw [e] at hf; exact hf
  | ok en ρ' =>
    rw [e] at hf
    dsimp only [R.bind] at hf
    intro v H1 Z1 fp w1 z1 n1 b1 ev s1 ro
    refine hl.go M (Rm.out w1 H1) Z1 H1 σ ρ' w1 _ (mp.trans b1.le) b1.out s1 ?_
    cases e2 : ml ρ' with
    | fail => rw [e2] at hf; exact hf
    | err C d ρ2 =>
      rw [e2] at hf
      intro x vd H2 Z2 w2 z2 n2 b2 hx2 ov s2
      exact hf x vd H2 Z2 w2 (z1.trans z2) (n1.trans (n2.of b1.le)) (b2.less b1.le) hx2 ov s2
    | ok lo ρ2 =>
      rw [e2] at hf
      dsimp only [R.bind] at hf
      intro H2 Z2 z2 n2 b2 s2 x2
      have b2' := Base.join (fp := fp) (f := []) (w' := w1) b1 b2 n2
      rw [List.append_nil] at b2'
      refine hh.go M (Rm.out w1 H2) Z2 H2 σ ρ2 w1 _ (mp.trans b2'.le) b2'.out s2 ?_
      cases e3 : mh ρ2 with
      | fail => rw [e3] at hf; exact hf
      | err C d ρ3 =>
        rw [e3] at hf
        intro x vd H3 Z3 w3 z3 n3 b3 hx3 ov s3
        exact hf x vd H3 Z3 w3 ((z1.trans z2).trans z3) ((n1.trans (n2.of b1.le)).trans (n3.of b2'.le)) (b3.less b2'.le) hx3 ov s3
      | ok hi ρ3 =>
        rw [e3] at hf
        dsimp only [R.bind] at hf
        intro H3 Z3 z3 n3 b3 s3 x3
        have b3' := Base.join (fp := fp) (f := []) (w' := w1) b2' b3 n3
        rw [List.append_nil] at b3'
        have ev3 : EntV c.ca H3 Z3 v en fp := (ev.mono z2 (fun a _ o y => x2 a o y) fun _ => x2).mono z3 (fun a _ o y => x3 a o y) fun _ => x3
        obtain ⟨g, o⟩ := ev3.ow
        have hf' : Res c.ca P Z3 H3 w1 Q (pSl lo hi [en.t]) := by
          split at hf
          · rename_i x q
            rw [q]
            intro v4 H4 Z4 fp4 x4 z4 n4 b4 ev4
            exact hf v4 H4 Z4 fp4 w1 (((z1.trans z2).trans z3).trans z4) (((n1.trans (n2.of b1.le)).trans (n3.of b2'.le)).trans n4) b4 ev4 (s3.mono z4 fun a q o y => x4 a o y) fun q => ⟨(((ro q).1.trans x2).trans x3).trans x4, (ro q).2⟩
          · exact hf.elim
        exact (pr_sl lo hi).go P Z3 H3 w1 [v] [en.t] Q b3'.drop (.cons o .nil) hf'
end
end Rm
/-! Rm, part V6: statements by their meaning. -/
namespace Rm
open PySem PySem.Spec L2
open PyProof.Rows hiding St
variable [Tb]
/-! ### owned parts, counted -/
def cnt (x : Addr) (w : List Addr) : Nat := w.count x
theorem cnt_nil {x : Addr} : cnt x [] = 0 := rfl
theorem cnt_app {x : Addr} {a b : List Addr} : cnt x (a ++ b) = cnt x a + cnt x b := List.count_append
theorem cnt_cons {x y : Addr} {a : List Addr} : cnt x (y :: a) = cnt x a + cnt x [y] := by
  unfold cnt
  rw [List.count_cons, List.count_cons, List.count_nil]
  omega
theorem cnt_mem {x : Addr} {w : List Addr} : x ∈ w ↔ 0 < cnt x w := List.count_pos_iff.symm
theorem nd_cnt {w : List Addr} : w.Nodup ↔ ∀ x, cnt x w ≤ 1 := by
  induction w with
  | nil => simp [cnt]
  | cons a w ih =>
    rw [List.nodup_cons, ih]
    constructor
    · rintro ⟨h1, h2⟩ x
      rw [cnt_cons]
      by_cases e : a = x
      · subst e
        have : cnt a w = 0 := Nat.eq_zero_of_not_pos fun q => h1 (cnt_mem.mpr q)
        rw [this]; simp [cnt]
      · have : cnt x [a] = 0 := by simp [cnt, List.count_cons, e]
        have := h2 x
        omega
    · intro h
      refine ⟨fun q => ?_, fun x => ?_⟩
      · have h1 := h a
        rw [cnt_cons] at h1
        have h2 := cnt_mem.mp q
        have : cnt a [a] = 1 := by simp [cnt]
        omega
      · have := h x
        rw [cnt_cons] at this
        omega
section
variable {M P Z H Z' H' : Hp} {w w' fp : List Addr} {a : Addr} {o : HO}
/-- no more than was owned -/
theorem BaseT.cnt {T0 : List (Addr × Str)} (b : BaseT T0 P Z H w) (h : ∀ x, Rm.cnt x w' ≤ Rm.cnt x w) : BaseT T0 P Z H w' := by
  have mem : ∀ x ∈ w', x ∈ w := fun x q => cnt_mem.mpr (Nat.lt_of_lt_of_le (cnt_mem.mp q) (h x))
  exact ⟨b.z, fun a q => b.zw a (mem a q), b.m, fun a q => b.mw a (mem a q), nd_cnt.mpr fun x => Nat.le_trans (h x) (nd_cnt.mp b.nd x), fun a q => b.hw a (mem a q), b.tb⟩
/-- an owned thing is changed -/
theorem Base.put (b : Base P Z H w) (h : a ∈ w) (ho : ownO o = true := by rfl) : Base P Z (upd H a o) w := by
  refine ⟨fun x u q => ?_, b.zw, fun x u q => ?_, b.mw, b.nd, fun x q => ?_, ⟨b.tb.m, b.tb.z, tabs_keep b.tb.t fun x u y tc => by
    have : x ≠ a := fun e => by
      subst e
      obtain ⟨u', e1, e2⟩ := b.hw x h
      rw [y] at e1; cases e1
      exact isTC_own tc e2
    rw [upd_ne this]; exact y⟩⟩
  · have : x ≠ a := fun e => by rw [e, b.zw a h] at q; cases q
    rw [upd_ne this]; exact b.z x u q
  · have : x ≠ a := fun e => by rw [e, b.mw a h] at q; cases q
    rw [upd_ne this]; exact b.m x u q
  · by_cases e : x = a
    · rw [e]; exact ⟨o, upd_same, ho⟩
    · exact (b.hw x q).keep fun o y => by rw [upd_ne e]; exact y
end
/-! ### ends of statements -/
inductive O where
  | nx (ρ : List Ent) | rt (e : Ent) (ρ : List Ent) | bk (ρ : List Ent) | ct (ρ : List Ent) | err (C : Str) (d : T) (ρ : List Ent) | fail
structure Pin (pin : List Nat) (σ0 σ : St) : Prop where
  at_ : ∀ i ∈ pin, σ[i]? = σ0[i]?
  len : σ.length = σ0.length
/-- a frame: the classes, the slots of what callers keep -/
structure FC where
  c : VC
  pin : List Nat
  σ0 : St
def FinS (F : FC) (W : WX) (M P Z : Hp) (D : Ends) : O → Prop
  | .nx ρ' => ∀ σ' H' Z' w', Ext Z Z' → ZN P Z Z' → Base P Z' H' w' → Slots F.c.ca H' M Z' σ' ρ' w' → Pin F.pin F.σ0 σ' → D.nx σ' H'
  | .bk ρ' => ∀ σ' H' Z' w', Ext Z Z' → ZN P Z Z' → Base P Z' H' w' → Slots F.c.ca H' M Z' σ' ρ' w' → Pin F.pin F.σ0 σ' → D.bk σ' H'
  | .ct ρ' => ∀ σ' H' Z' w', Ext Z Z' → ZN P Z Z' → Base P Z' H' w' → Slots F.c.ca H' M Z' σ' ρ' w' → Pin F.pin F.σ0 σ' → D.ct σ' H'
  | .rt e ρ' => ∀ v σ' H' Z' fp w', Ext Z Z' → ZN P Z Z' → Base P Z' H' (fp ++ w') → EntV F.c.ca H' Z' v e fp → Slots F.c.ca H' M Z' σ' ρ' w' → Pin F.pin F.σ0 σ' → D.rt v H'
  | .err C d ρ' => ∀ x vd σ' H' Z' w', Ext Z Z' → ZN P Z Z' → Base P Z' H' w' → Z' x = some (.xd [(F.c.ef C, vd)]) → Ow F.c.ca H' Z' vd d [] → Slots F.c.ca H' M Z' σ' ρ' w' → Pin F.pin F.σ0 σ' → W (.ref (F.c.ca.cl C)) (some x) σ' H'
  | .fail => False
structure SS (F : FC) (W : WX) (t : TS) (m : List Ent → O) : Prop where
  go : ∀ (M P Z H : Hp) (σ : St) (ρ : List Ent) (w : List Addr) (D : Ends), Ext M P → Base P Z H w → Slots F.c.ca H M Z σ ρ w → Pin F.pin F.σ0 σ → FinS F W M P Z D (m ρ) → t D σ H
/-- from an expression to a statement -/
def R.then {α : Type} (r : R α) (k : α → List Ent → O) : O := match r with
  | .ok a ρ => k a ρ
  | .err C d ρ => .err C d ρ
  | .fail => .fail
def O.seq (o : O) (k : List Ent → O) : O := match o with
  | .nx ρ => k ρ
  | o => o
section
variable {F : FC} {W : WX} {M P Z Z1 H : Hp} {D D' : Ends}
theorem FinS.go {o : O} (z1 : Ext Z Z1) (n1 : ZN P Z Z1) (h : FinS F W M P Z D o) : FinS F W M P Z1 D o := by
  cases o with
  | nx ρ => exact fun σ H' Z' w' z n => h σ H' Z' w' (z1.trans z) (n1.trans n)
  | bk ρ => exact fun σ H' Z' w' z n => h σ H' Z' w' (z1.trans z) (n1.trans n)
  | ct ρ => exact fun σ H' Z' w' z n => h σ H' Z' w' (z1.trans z) (n1.trans n)
  | rt e ρ => exact fun v σ H' Z' fp w' z n => h v σ H' Z' fp w' (z1.trans z) (n1.trans n)
  | err C d ρ => exact fun x vd σ H' Z' w' z n => h x vd σ H' Z' w' (z1.trans z) (n1.trans n)
  | fail => exact h
/-- an expression's error within a statement -/
theorem fin_err {σ : St} {C : Str} {d : T} {ρ' : List Ent} (pn : Pin F.pin F.σ0 σ) (h : FinS F W M P Z D (.err C d ρ')) : ∀ x vd H' Z' w', Ext Z Z' → ZN P Z Z' → Base P Z' H' w' → Z' x = some (.xd [(F.c.ef C, vd)]) → Ow F.c.ca H' Z' vd d [] → Slots F.c.ca H' M Z' σ ρ' w' → W (.ref (F.c.ca.cl C)) (some x) σ H' :=
  fun x vd H' Z' w' z n b e o s => h x vd σ H' Z' w' z n b e o s pn
end
section
variable {F : FC} {W : WX} {r : Bool} {t u : TS} {te : TE} {ta : TA} {tt : TT} {m m' : List Ent → O} {me : List Ent → R Ent} {ms : List Ent → R (List Ent)} {mt : List Ent → R Bool}
theorem SS.next : SS F W tNext .nx := ⟨fun M P Z H σ ρ w D mp b s pn h => h σ H Z w (Ext.refl _) ZN.refl b s pn⟩
theorem SS.brk : SS F W tBreak .bk := ⟨fun M P Z H σ ρ w D mp b s pn h => h σ H Z w (Ext.refl _) ZN.refl b s pn⟩
def mThen (m m' : List Ent → O) : List Ent → O := fun ρ => (m ρ).seq m'
theorem SS.seq (h1 : SS F W t m) (h2 : SS F W u m') : SS F W (tSeq t u) (mThen m m') := by
  refine ⟨fun M P Z H σ ρ w D mp b s pn h => ?_⟩
  unfold tSeq
  refine h1.go M P Z H σ ρ w _ mp b s pn ?_
  unfold mThen at h
  cases e : m ρ with
  | nx ρ' =>
    rw [e] at h
    intro σ' H' Z' w' z n b1 s1 pn1
    exact h2.go M P Z' H' σ' ρ' w' D mp b1 s1 pn1 (FinS.go z n h)
  | rt e' ρ' => rw [e] at h; exact h
  | bk ρ' => rw [e] at h; exact h
  | ct ρ' => rw [e] at h; exact h
  | err C d ρ' => rw [e] at h; exact h
  | fail => rw [e] at h; exact h
def mDrop (me : List Ent → R Ent) : List Ent → O := fun ρ => (me ρ).then fun _ ρ' => .nx ρ'
theorem SS.drop (h : SV F.c W r te me) : SS F W (tDrop te) (mDrop me) := by
  refine ⟨fun M P Z H σ ρ w D mp b s pn hf => ?_⟩
  refine h.go M P Z H σ ρ w _ mp b s ?_
  unfold mDrop at hf
  cases e : me ρ with
  | fail => rw [e] at hf; exact hf
  | err C d ρ' => rw [e] at hf; exact fin_err pn hf
  | ok en ρ' =>
    rw [e] at hf
    intro v H1 Z1 fp w1 z1 n1 b1 ev s1 ro
    exact hf σ H1 Z1 w1 z1 n1 b1.drop s1 pn
def mRet (me : List Ent → R Ent) : List Ent → O := fun ρ => (me ρ).then fun e ρ' => .rt e ρ'
theorem SS.ret (h : SV F.c W r te me) : SS F W (tRet te) (mRet me) := by
  refine ⟨fun M P Z H σ ρ w D mp b s pn hf => ?_⟩
  refine h.go M P Z H σ ρ w _ mp b s ?_
  unfold mRet at hf
  cases e : me ρ with
  | fail => rw [e] at hf; exact hf
  | err C d ρ' => rw [e] at hf; exact fin_err pn hf
  | ok en ρ' =>
    rw [e] at hf
    intro v H1 Z1 fp w1 z1 n1 b1 ev s1 ro
    exact hf v σ H1 Z1 fp w1 z1 n1 b1 ev s1 pn
/-- return x, what x holds is handed over -/
def mMove (i : Nat) : List Ent → R Ent := fun ρ => match ρ[i]? with
  | some (.own t) => .ok (.own t) (ρ.set i .no)
  | some (.vw t) => .ok (.vw t) ρ
  | _ => .fail
theorem sv_move {c : VC} {i : Nat} : SV c W false (tV i) (mMove i) := by
  refine ⟨fun M P Z H σ ρ w Q mp b s hf => ?_⟩
  unfold mMove at hf
  unfold tV
  split at hf
  · rename_i t e
    obtain ⟨x, l, f, r, e1, e2, sl, k⟩ := s.split e
    subst e2
    cases sl with
    | @own v _ _ h =>
      rw [e1]
      have s2 := k (x' := some v) (f' := []) (fun _ _ _ q => q) (Ext.refl _) .no
      have hs : σ.set i (some v) = σ := by
        apply List.ext_getElem?
        intro j
        rw [List.getElem?_set]
        split
        · rename_i q; subst q
          split
          · exact e1.symm
          · rename_i q; rw [List.getElem?_eq_none (by omega)]
        · rfl
      rw [hs, List.nil_append] at s2
      exact hf _ H Z f (l ++ r) (Ext.refl _) ZN.refl (b.cnt fun x => by simp only [cnt_app]; omega) (.own h) s2 fun q => nomatch q
  · rename_i t e
    obtain ⟨x, l, f, r, e1, e2, sl, _⟩ := s.split e
    cases sl with
    | vw h =>
      rw [e1]
      exact hf _ H Z [] w (Ext.refl _) ZN.refl b (.vw (h.mono (Ext.refl _) fun a _ o y => b.m a o (mp a o y))) s fun q => nomatch q
  · exact hf.elim
def mRetN : List Ent → O := fun ρ => .rt (.own .non) ρ
def mIf (mt : List Ent → R Bool) (m m' : List Ent → O) : List Ent → O := fun ρ => (mt ρ).then fun k ρ' => if k = true then m ρ' else m' ρ'
theorem SS.ifs (h : ST F.c W r tt mt) (h1 : SS F W t m) (h2 : SS F W u m') : SS F W (tIfS tt t u) (mIf mt m m') := by
  refine ⟨fun M P Z H σ ρ w D mp b s pn hf => ?_⟩
  refine h.go M P Z H σ ρ w _ mp b s ?_
  unfold mIf at hf
  cases e : mt ρ with
  | fail => rw [e] at hf; exact hf
  | err C d ρ' => rw [e] at hf; exact fin_err pn hf
  | ok k ρ' =>
    rw [e] at hf
    dsimp only [R.then] at hf
    intro H1 Z1 w1 z1 n1 b1 s1 ro1
    cases k with
    | true => exact h1.go M P Z1 H1 σ ρ' w1 D mp b1 s1 pn (FinS.go z1 n1 hf)
    | false => exact h2.go M P Z1 H1 σ ρ' w1 D mp b1 s1 pn (FinS.go z1 n1 hf)
/-! names are bound -/
/-- what may be kept: an own thing, a frozen one -/
def Ent.keep : Ent → Option T
  | .own t => some t
  | .vw t => if t.isF = true then some t else none
  | .no => none
  | .exc _ _ => none
theorem EntV.keep {ca : Ks} {H Z : Hp} {v : V} {e : Ent} {fp : List Addr} {t : T} (h : EntV ca H Z v e fp) (q : e.keep = some t) : Ow ca H Z v t fp := by
  cases h with
  | own h => cases q; exact h
  | @vw t' g h =>
    have q' : (if t'.isF = true then some t' else none) = some t := q
    split at q'
    · rename_i y
      cases q'
      obtain rfl := h.nof y
      exact h
    · cases q'
def mSet (i : Nat) (me : List Ent → R Ent) : List Ent → O := fun ρ => (me ρ).then fun e ρ' => match e.keep with
  | some t => if i < ρ'.length then .nx (ρ'.set i (.own t)) else .fail
  | none => .fail
theorem Pin.set {pin : List Nat} {σ0 σ : St} {i : Nat} {x : Option V} (h : Pin pin σ0 σ) (hi : i ∉ pin) : Pin pin σ0 (σ.set i x) := ⟨fun j hj => by
  have : i ≠ j := fun e => hi (e ▸ hj)
  rw [List.getElem?_set_ne this]; exact h.at_ j hj, by rw [List.length_set]; exact h.len⟩
/-- a new value in a slot -/
theorem Slots.put {ca : Ks} {H M Z : Hp} {σ : St} {ρ : List Ent} {w fp : List Addr} {i : Nat} {v : V} {t : T} {P : Hp} (s : Slots ca H M Z σ ρ w) (hi : i < ρ.length) (h : Ow ca H Z v t fp) (b : Base P Z H (fp ++ w)) :
    ∃ w', Base P Z H w' ∧ Slots ca H M Z (σ.set i (some v)) (ρ.set i (.own t)) w' := by
  obtain ⟨x, l, f, r, e1, e2, sl, k⟩ := s.split (List.getElem?_eq_getElem hi)
  subst e2
  exact ⟨_, b.cnt (w' := l ++ (fp ++ r)) (fun x => by simp only [cnt_app]; omega), k (fun _ _ _ q => q) (Ext.refl _) (.own h)⟩
theorem SS.set (i : Nat) (hp : i ∉ F.pin) (h : SV F.c W r te me) : SS F W (tAsg te (gName i)) (mSet i me) := by
  refine ⟨fun M P Z H σ ρ w D mp b s pn hf => ?_⟩
  refine h.go M P Z H σ ρ w _ mp b s ?_
  unfold mSet at hf
  cases e : me ρ with
  | fail => rw [e] at hf; exact hf
  | err C d ρ' => rw [e] at hf; exact fin_err pn hf
  | ok en ρ' =>
    rw [e] at hf
    dsimp only [R.then] at hf
    intro v H1 Z1 fp w1 z1 n1 b1 ev s1 ro
    split at hf
    · rename_i tr q
      split at hf
      · rename_i hi
        obtain ⟨w2, b2, s2⟩ := s1.put hi (ev.keep q) b1
        exact hf _ H1 Z1 w2 z1 n1 b2 s2 (pn.set hp)
      · exact hf.elim
    · exact hf.elim
/-- targets for a frozen value -/
structure SG (F : FC) (g : TG) (m : T → List Ent → Option (List Ent)) : Prop where
  go : ∀ (M P Z H : Hp) (σ : St) (ρ : List Ent) (w : List Addr) (v : V) (t : T) (Q : St → Hp → Prop), Base P Z H w → Ow F.c.ca H Z v t [] → Slots F.c.ca H M Z σ ρ w → Pin F.pin F.σ0 σ → (match m t ρ with
    | some ρ' => ∀ σ' w', Base P Z H w' → Slots F.c.ca H M Z σ' ρ' w' → Pin F.pin F.σ0 σ' → Q σ' H
    | none => False) → g v σ H Q
structure SGs (F : FC) (g : TGs) (m : List T → List Ent → Option (List Ent)) : Prop where
  go : ∀ (M P Z H : Hp) (σ : St) (ρ : List Ent) (w : List Addr) (vs : List V) (ts : List T) (Q : St → Hp → Prop), Base P Z H w → OwA F.c.ca H Z vs ts [] → Slots F.c.ca H M Z σ ρ w → Pin F.pin F.σ0 σ → (match m ts ρ with
    | some ρ' => ∀ σ' w', Base P Z H w' → Slots F.c.ca H M Z σ' ρ' w' → Pin F.pin F.σ0 σ' → Q σ' H
    | none => False) → g vs σ H Q
def gmName (i : Nat) : T → List Ent → Option (List Ent) := fun t ρ => if i < ρ.length then some (ρ.set i (.own t)) else none
theorem SG.name (i : Nat) (hp : i ∉ F.pin) : SG F (gName i) (gmName i) := ⟨fun M P Z H σ ρ w v t Q b o s pn h => by
  unfold gmName at h
  split at h
  · rename_i ρ' q
    split at q
    · rename_i hi
      cases q
      obtain ⟨w2, b2, s2⟩ := s.put hi o (fp := []) b
      exact h _ w2 b2 s2 (pn.set hp)
    · cases q
  · exact h.elim⟩
def gmNil : List T → List Ent → Option (List Ent) := fun ts ρ => if ts.isEmpty then some ρ else none
def gmCons (m : T → List Ent → Option (List Ent)) (ms : List T → List Ent → Option (List Ent)) : List T → List Ent → Option (List Ent) := fun ts ρ => match ts with
  | t :: r => (m t ρ).bind (ms r)
  | [] => none
def gmTup (n : Nat) (ms : List T → List Ent → Option (List Ent)) : T → List Ent → Option (List Ent) := fun t ρ => match t with
  | .tup ts => if ts.length = n then ms ts ρ else none
  | _ => none
theorem SGs.nil : SGs F gNil gmNil := ⟨fun M P Z H σ ρ w vs ts Q b o s pn h => by
  unfold gmNil at h
  cases ts with
  | nil =>
    have := o.length
    have e : vs = [] := by cases vs <;> first | rfl | (simp at this)
    exact ⟨e, h σ w b s pn⟩
  | cons t ts => exact h.elim⟩
theorem SGs.cons {g : TG} {gs : TGs} {m : T → List Ent → Option (List Ent)} {ms : List T → List Ent → Option (List Ent)} (h1 : SG F g m) (h2 : SGs F gs ms) : SGs F (gCons g gs) (gmCons m ms) := ⟨fun M P Z H σ ρ w vs ts Q b o s pn h => by
  unfold gmCons at h
  cases vs with
  | nil =>
    cases o
    exact h.elim
  | cons v vs =>
    obtain ⟨t, rr, rfl, o1, o2⟩ := o.inv0
    refine ⟨v, vs, rfl, h1.go M P Z H σ ρ w v t _ b o1 s pn ?_⟩
    dsimp only at h
    cases e : m t ρ with
    | none => rw [e] at h; exact h.elim
    | some ρ1 =>
      rw [e] at h
      intro σ1 w1 b1 s1 pn1
      exact h2.go M P Z H σ1 ρ1 w1 vs rr Q b1 o2 s1 pn1 h⟩
theorem SG.tup {K : PySem.W.Frag} {n : Nat} {gs : TGs} {ms : List T → List Ent → Option (List Ent)} (h2 : SGs F gs ms) : SG F (gTup K n gs) (gmTup n ms) := ⟨fun M P Z H σ ρ w v t Q b o s pn h => by
  unfold gmTup at h
  cases t with
  | tup ts =>
    obtain ⟨a, xs, rfl, e1, _, A⟩ := ow_tup b o
    dsimp only at h
    by_cases q : ts.length = n
    · rw [if_pos q] at h
      exact ⟨a, xs, rfl, SqT.of e1, A.length.trans q, h2.go M P Z H σ ρ w xs ts Q b A s pn h⟩
    · rw [if_neg q] at h
      exact h.elim
  | non => exact h.elim
  | bl k => exact h.elim
  | int i => exact h.elim
  | str x => exact h.elim
  | lst k ts => exact h.elim
  | dct k ts => exact h.elim
  | dtp k zs ts => exact h.elim
  | ins k C ts => exact h.elim
  | scr ts => exact h.elim⟩
def mAsg (me : List Ent → R Ent) (g : T → List Ent → Option (List Ent)) : List Ent → O := fun ρ => (me ρ).then fun e ρ' => match e.fz with
  | some t => (match g t ρ' with
    | some ρ2 => .nx ρ2
    | none => .fail)
  | none => .fail
theorem SS.asg {g : TG} {mg : T → List Ent → Option (List Ent)} (h : SV F.c W r te me) (hg : SG F g mg) : SS F W (tAsg te g) (mAsg me mg) := by
  refine ⟨fun M P Z H σ ρ w D mp b s pn hf => ?_⟩
  refine h.go M P Z H σ ρ w _ mp b s ?_
  unfold mAsg at hf
  cases e : me ρ with
  | fail => rw [e] at hf; exact hf
  | err C d ρ' => rw [e] at hf; exact fin_err pn hf
  | ok en ρ' =>
    rw [e] at hf
    dsimp only [R.then] at hf
    intro v H1 Z1 fp w1 z1 n1 b1 ev s1 ro
    split at hf
    · rename_i tr q
      have o := ev.fz (Z' := fzZ fp H1 Z1) (fzZ_ext b1) (fun a y => fzZ_in a y) q
      have b2 := b1.fz
      have s2 := s1.mono (H' := H1) (fzZ_ext b1) (fun a q o y => y)
      refine hg.go M P (fzZ fp H1 Z1) H1 σ ρ' w1 v tr _ b2 o s2 pn ?_
      cases e2 : mg tr ρ' with
      | none => rw [e2] at hf; exact hf.elim
      | some ρ2 =>
        rw [e2] at hf
        intro σ' w' b3 s3 pn3
        exact hf σ' H1 _ w' (z1.trans (fzZ_ext b1)) (n1.trans (fzZ_zn b1)) b3 s3 pn3
    · exact hf.elim
end
end Rm
/-! Rm, part V7: places, and what is changed there. -/
namespace Rm
open PySem PySem.Spec L2
open PyProof.Rows hiding St
variable [Tb]
/-- in its place, or at the end -/
def putT {κ α : Type} [DecidableEq κ] : List (κ × α) → κ → α → List (κ × α)
  | [], k, x => [(k, x)]
  | (k', y) :: r, k, x => if k' = k then (k', x) :: r else (k', y) :: putT r k x
def dropT {κ α : Type} [DecidableEq κ] (ps : List (κ × α)) (k : κ) : List (κ × α) := ps.filter fun p => decide (p.1 ≠ k)
section
variable {κ α β : Type} [DecidableEq κ]
theorem putT_keys (f : κ → α → β → Prop) : ∀ {ks : List (κ × α)} {ps : List (κ × β)} {k : κ} {x : α} {y : β}, ks.map (·.1) = ps.map (·.1) → (putT ks k x).map (·.1) = (putT ps k y).map (·.1)
  | [], [], _, _, _, _ => rfl
  | [], _ :: _, _, _, _, e => nomatch e
  | _ :: _, [], _, _, _, e => nomatch e
  | (k1, v) :: ks, (k2, t) :: ps, k, x, y, e => by
    simp only [List.map_cons, List.cons.injEq] at e
    obtain ⟨rfl, e⟩ := e
    by_cases q : k1 = k
    · simp [putT, q, e]
    · simp only [putT, if_neg q, List.map_cons, putT_keys f (x := x) (y := y) e]
theorem putT_mem {ps : List (κ × β)} {k z : κ} {y : β} (h : z ∈ (putT ps k y).map (·.1)) : z = k ∨ z ∈ ps.map (·.1) := by
  induction ps with
  | nil => simpa [putT] using h
  | cons p r ih =>
    obtain ⟨k', x⟩ := p
    by_cases q : k' = k
    · simp only [putT, q, if_true, List.map_cons, List.mem_cons] at h ⊢
      rcases h with h | h
      · exact Or.inl h
      · exact Or.inr (Or.inr h)
    · simp only [putT, if_neg q, List.map_cons, List.mem_cons] at h ⊢
      rcases h with h | h
      · exact Or.inr (Or.inl h)
      · rcases ih h with h | h
        · exact Or.inl h
        · exact Or.inr (Or.inr h)
theorem putT_nodup : ∀ {ps : List (κ × β)} {k : κ} {y : β}, (ps.map (·.1)).Nodup → ((putT ps k y).map (·.1)).Nodup
  | [], k, y, _ => by simp [putT]
  | (k', x) :: r, k, y, h => by
    simp only [List.map_cons, List.nodup_cons] at h
    by_cases q : k' = k
    · simp only [putT, q, if_true, List.map_cons, List.nodup_cons]
      exact ⟨q ▸ h.1, h.2⟩
    · simp only [putT, if_neg q, List.map_cons, List.nodup_cons]
      exact ⟨fun z => (putT_mem z).elim q h.1, putT_nodup h.2⟩
theorem putK_putT {κ : Type} [DecidableEq κ] {ks : List (κ × V)} {k : κ} {v : V} (n : (ks.map (·.1)).Nodup) : putK ks k v = putT ks k v := by
  induction ks with
  | nil => rfl
  | cons p r ih =>
    obtain ⟨k', x⟩ := p
    simp only [List.map_cons, List.nodup_cons] at n
    have ih := ih n.2
    by_cases q : k' = k
    · subst q
      have : r.map (fun kv => if kv.1 = k' then (kv.1, v) else kv) = r := by
        have : ∀ l : List (κ × V), k' ∉ l.map (·.1) → l.map (fun kv => if kv.1 = k' then (kv.1, v) else kv) = l := by
          intro l hl
          induction l with
          | nil => rfl
          | cons a l ih2 =>
            simp only [List.map_cons, List.mem_cons, not_or] at hl
            rw [List.map_cons, ih2 hl.2, if_neg (fun z => hl.1 z.symm)]
        exact this r n.1
      simp [putK, putT, this]
    · unfold putK at ih ⊢
      simp only [putT, if_neg q, List.any_cons, decide_eq_false q, Bool.false_or, List.map_cons]
      split at ih
      · rename_i h
        rw [if_pos h, ih]
      · rename_i h
        rw [if_neg h, List.cons_append, ih]
theorem putF_putT (f : Str) (v : V) : ∀ fs : List (Str × V), putF f v fs = putT fs f v
  | [] => rfl
  | (g, x) :: r => by
    unfold putF putT
    rw [putF_putT f v r]
theorem getK_cons {p : κ × α} {r : List (κ × α)} {k : κ} : getK (p :: r) k = if p.1 = k then some p.2 else getK r k := by
  unfold getK
  rw [List.find?_cons]
  by_cases q : p.1 = k
  · simp [q]
  · simp [q]
theorem putT_same : ∀ {ks : List (κ × α)} {k : κ} {v : α}, getK ks k = some v → putT ks k v = ks
  | [], k, v, h => by cases h
  | (k', x) :: r, k, v, h => by
    rw [getK_cons] at h
    by_cases q : k' = k
    · rw [if_pos q] at h
      cases h
      simp [putT, q]
    · rw [if_neg q] at h
      simp only [putT, if_neg q, putT_same h]
theorem putT_new : ∀ {ks : List (κ × α)} {k : κ} {v : α}, getK ks k = none → putT ks k v = ks ++ [(k, v)]
  | [], k, v, h => rfl
  | (k', x) :: r, k, v, h => by
    rw [getK_cons] at h
    by_cases q : k' = k
    · rw [if_pos q] at h
      cases h
    · rw [if_neg q] at h
      simp only [putT, if_neg q, putT_new h, List.cons_append]
end
section
variable {ca : Ks} {M P Z Z' H H' : Hp} {w fp : List Addr} {σ : St} {ρ : List Ent} {i : Nat} {v : V} {u : T} {k : T → T}
/-- one item apart, by its key -/
theorem OwP.foc {κ : Type} [DecidableEq κ] : ∀ {ks : List (κ × V)} {ps : List (κ × T)} {f : List Addr} {k : κ} {u : T}, ks.map (·.1) = ps.map (·.1) → OwA ca H Z (ks.map (·.2)) (ps.map (·.2)) f → getK ps k = some u →
    ∃ l m r v, f = l ++ (m ++ r) ∧ getK ks k = some v ∧ Ow ca H Z v u m ∧ ∀ {H' Z' : Hp} {u' : T} {m' : List Addr} {v' : V}, (∀ a ∈ l ++ r, ∀ o, H a = some o → H' a = some o) → Ext Z Z' → Ow ca H' Z' v' u' m' →
      OwA ca H' Z' ((putT ks k v').map (·.2)) ((putT ps k u').map (·.2)) (l ++ (m' ++ r))
  | [], [], _, _, _, _, _, h => by cases h
  | [], _ :: _, _, _, _, e, _, _ => nomatch e
  | _ :: _, [], _, _, _, e, _, _ => nomatch e
  | (k1, v) :: ks, (k2, t) :: ps, _, k, u, e, A, h => by
    simp only [List.map_cons, List.cons.injEq] at e
    obtain ⟨rfl, e⟩ := e
    rw [getK_cons] at h
    cases A with
    | @cons _ _ _ _ f1 g1 h1 A =>
      by_cases q : k1 = k
      · rw [if_pos q] at h
        cases h
        refine ⟨[], f1, g1, v, rfl, by rw [getK_cons, if_pos q], h1, fun {H' Z' u' m' v'} hh z o => ?_⟩
        simp only [putT, if_pos q, List.map_cons]
        have q2 : OwA ca H' Z' (v' :: _) (u' :: _) (m' ++ g1) := .cons o (A.mono z fun a y => hh a y)
        exact q2
      · rw [if_neg q] at h
        obtain ⟨l, m, r, v', e1, e2, o, kk⟩ := OwP.foc e A h
        refine ⟨f1 ++ l, m, r, v', by rw [e1, List.append_assoc], by rw [getK_cons, if_neg q]; exact e2, o, fun {H' Z' u' m' v'} hh z o => ?_⟩
        simp only [putT, if_neg q, List.map_cons, List.append_assoc]
        exact .cons (h1.mono z fun a y => hh a (by simp [y])) (kk (fun a y => hh a (by simp at y ⊢; rcases y with y | y <;> simp [y])) z o)
theorem OwA.append1 : ∀ {xs : List V} {ts : List T} {f : List Addr} {y : V} {t : T} {g : List Addr}, OwA ca H Z xs ts f → Ow ca H Z y t g → OwA ca H Z (xs ++ [y]) (ts ++ [t]) (f ++ g)
  | _, _, _, _, _, _, .nil, h => by
    have := OwA.cons h (OwA.nil (ca := ca) (H := H) (Z := Z))
    simpa using this
  | _, _, _, _, _, _, .cons a A, h => by
    have := OwA.cons a (OwA.append1 A h)
    simpa [List.append_assoc] using this
/-- a value at a key, new or not -/
theorem OwP.put {κ : Type} [DecidableEq κ] {ks : List (κ × V)} {ps : List (κ × T)} {f : List Addr} {k : κ} {v' : V} {u' : T} {m' : List Addr} (e : ks.map (·.1) = ps.map (·.1)) (A : OwA ca H Z (ks.map (·.2)) (ps.map (·.2)) f) (o : Ow ca H Z v' u' m') :
    ∃ f', OwA ca H Z ((putT ks k v').map (·.2)) ((putT ps k u').map (·.2)) f' ∧ ∀ x, cnt x f' ≤ cnt x f + cnt x m' := by
  rcases getK_rel (k := k) e A with ⟨z1, z2⟩ | ⟨t, v, g, z1, z2, _⟩
  · rw [putT_new z1, putT_new z2]
    refine ⟨f ++ m', ?_, fun x => by simp only [cnt_app]; omega⟩
    simp only [List.map_append, List.map_cons, List.map_nil]
    exact A.append1 o
  · obtain ⟨l, m, r, v, e1, e2, o1, kk⟩ := OwP.foc e A z1
    exact ⟨_, kk (fun _ _ _ y => y) (Ext.refl _) o, fun x => by rw [e1]; simp only [cnt_app]; omega⟩
theorem OwA.foc : ∀ {xs : List V} {ts : List T} {f : List Addr} {j : Nat} {u : T}, OwA ca H Z xs ts f → ts[j]? = some u →
    ∃ l m r v, f = l ++ (m ++ r) ∧ xs[j]? = some v ∧ Ow ca H Z v u m ∧ ∀ {H' Z' : Hp} {u' : T} {m' : List Addr} {v' : V}, (∀ a ∈ l ++ r, ∀ o, H a = some o → H' a = some o) → Ext Z Z' → Ow ca H' Z' v' u' m' →
      OwA ca H' Z' (xs.set j v') (ts.set j u') (l ++ (m' ++ r))
  | _, _, _, _, _, .nil, h => by simp at h
  | _, _, _, 0, _, .cons (v := v) (f := f1) (g := g1) h1 A, h => by
    simp at h; subst h
    refine ⟨[], f1, g1, v, rfl, rfl, h1, fun {H' Z' u' m' v'} hh z o => ?_⟩
    have q2 : OwA ca H' Z' (v' :: _) (u' :: _) (m' ++ g1) := .cons o (A.mono z fun a y => hh a y)
    exact q2
  | _, _, _, j + 1, _, .cons (f := f1) h1 A, h => by
    simp at h
    obtain ⟨l, m, r, v', e1, e2, o, kk⟩ := OwA.foc A h
    refine ⟨f1 ++ l, m, r, v', by rw [e1, List.append_assoc], by simpa using e2, o, fun {H' Z' u' m' v'} hh z o => ?_⟩
    rw [List.append_assoc]
    exact .cons (h1.mono z fun a y => hh a (by simp [y])) (kk (fun a y => hh a (by simp at y ⊢; rcases y with y | y <;> simp [y])) z o)
/-- a node apart, of the tree in slot i -/
structure FocS (ca : Ks) (M H Z : Hp) (σ : St) (ρ : List Ent) (w : List Addr) (i : Nat) (v : V) (u : T) (k : T → T) : Prop where
  ex : ∃ L m R, w = L ++ (m ++ R) ∧ Ow ca H Z v u m ∧ ∀ {H' Z' : Hp} {u' : T} {m' : List Addr}, (∀ a ∈ L ++ R, ∀ o, H a = some o → H' a = some o) → Ext Z Z' → Ow ca H' Z' v u' m' → Slots ca H' M Z' σ (ρ.set i (.own (k u'))) (L ++ (m' ++ R))
theorem FocS.mono (x : Ext H H') (z : Ext Z Z') (f : FocS ca M H Z σ ρ w i v u k) : FocS ca M H' Z' σ ρ w i v u k := by
  obtain ⟨L, m, R, e, o, kk⟩ := f.ex
  exact ⟨L, m, R, e, o.mono z fun a _ o y => x a o y, fun hh z2 o2 => kk (fun a q o y => hh a q o (x a o y)) (z.trans z2) o2⟩
theorem set_same {σ : St} {i : Nat} {x : Option V} (e1 : σ[i]? = some x) : σ.set i x = σ := by
  apply List.ext_getElem?
  intro j
  rw [List.getElem?_set]
  split
  · rename_i q; subst q
    split
    · exact e1.symm
    · rename_i q; rw [List.getElem?_eq_none (by omega)]
  · rfl
theorem FocS.name (s : Slots ca H M Z σ ρ w) (h : ρ[i]? = some (.own u)) : ∃ v, σ[i]? = some (some v) ∧ FocS ca M H Z σ ρ w i v u id := by
  obtain ⟨x, l, f, r, e1, e2, sl, kk⟩ := s.split h
  cases sl with
  | @own v _ _ o =>
    refine ⟨v, e1, l, f, r, e2, o, fun {H' Z' u' m'} hh z o' => ?_⟩
    have q := kk (x' := some v) hh z (.own o')
    rw [set_same e1] at q
    exact q
theorem FocS.key {x : Key} {ps : List (Key × T)} {u : T} (f : FocS ca M H Z σ ρ w i v (.dct true ps) k) (h : getK ps x = some u) :
    ∃ a ks y, v = .ref a ∧ rdo H a = some (.dK ks) ∧ getK ks x = some y ∧ FocS ca M H Z σ ρ w i y u (fun t => k (.dct true (putT ps x t))) := by
  obtain ⟨L, m, R, e, o, kk⟩ := f.ex
  cases o with
  | @dctO a ks _ fp e1 ek A nd =>
    obtain ⟨l, m1, r, y, f1, f2, o1, k1⟩ := OwP.foc ek A h
    refine ⟨a, ks, y, rfl, e1, f2, L ++ (a :: l), m1, r ++ R, by rw [e, f1]; simp, o1, fun {H' Z' u' m'} hh z o' => ?_⟩
    have q := k1 (v' := y) (fun b y => hh b (by simp at y ⊢; rcases y with y | y <;> simp [y])) z o'
    rw [putT_same f2] at q
    have q2 := kk (fun b y => hh b (by simp at y ⊢; rcases y with y | y <;> simp [y])) z (Ow.dctO (rdo_at (hh a (by simp)) e1) (by
      have := putT_keys (f := fun _ _ _ => True) (k := x) (x := y) (y := u') ek
      rw [putT_same f2] at this; exact this) q (putT_nodup nd))
    simpa using q2
theorem FocS.idx {j : Nat} {ts : List T} {u : T} (f : FocS ca M H Z σ ρ w i v (.lst true ts) k) (h : ts[j]? = some u) :
    ∃ a xs y, v = .ref a ∧ H a = some (.lst xs) ∧ xs.length = ts.length ∧ xs[j]? = some y ∧ FocS ca M H Z σ ρ w i y u (fun t => k (.lst true (ts.set j t))) := by
  obtain ⟨L, m, R, e, o, kk⟩ := f.ex
  cases o with
  | @lstO a xs _ fp e1 A =>
    obtain ⟨l, m1, r, y, f1, f2, o1, k1⟩ := OwA.foc A h
    refine ⟨a, xs, y, rfl, e1, A.length, f2, L ++ (a :: l), m1, r ++ R, by rw [e, f1]; simp, o1, fun {H' Z' u' m'} hh z o' => ?_⟩
    have q := k1 (v' := y) (fun b y => hh b (by simp at y ⊢; rcases y with y | y <;> simp [y])) z o'
    have es : xs.set j y = xs := by
      apply List.ext_getElem?
      intro n
      rw [List.getElem?_set]
      split
      · rename_i q; subst q
        split
        · exact f2.symm
        · rename_i q; rw [List.getElem?_eq_none (by omega)]
      · rfl
    rw [es] at q
    have q2 := kk (fun b y => hh b (by simp at y ⊢; rcases y with y | y <;> simp [y])) z (Ow.lstO (hh a (by simp) _ e1) q)
    simpa using q2
/-- the node's own thing is changed -/
theorem FocS.upd {a : Addr} {o : HO} {u' : T} (b : Base P Z H (fp ++ w)) (f : FocS ca M H Z σ ρ w i (.ref a) u k)
    (g : ∀ m, Ow ca H Z (.ref a) u m → (fp ++ m).Nodup → a ∈ m ∧ ∃ m', (∀ x, cnt x m' ≤ cnt x m + cnt x fp) ∧ ∀ {H' : Hp}, (∀ x ∈ fp ++ m, x ≠ a → ∀ o, H x = some o → H' x = some o) → H' a = some o → Ow ca H' Z (.ref a) u' m') (ho : ownO o = true := by rfl) :
    ∃ w', Base P Z (L2.upd H a o) w' ∧ Slots ca (L2.upd H a o) M Z σ (ρ.set i (.own (k u'))) w' := by
  obtain ⟨L, m, R, e, ow, kk⟩ := f.ex
  subst e
  have nd := nd_cnt.mp b.nd
  have hn : (fp ++ m).Nodup := nd_cnt.mpr fun x => by
    have := nd x
    simp only [cnt_app] at this ⊢
    omega
  obtain ⟨am, m', hc, hk⟩ := g m ow hn
  have ac := cnt_mem.mp am
  refine ⟨L ++ (m' ++ R), (b.put (o := o) (by simp [am]) ho).cnt (fun x => by have := hc x; simp only [cnt_app]; omega), ?_⟩
  refine kk (fun x q o' y => ?_) (Ext.refl _) (hk (fun x q n o' y => ?_) upd_same)
  · have : x ≠ a := fun e => by
      subst e
      have h1 := nd x
      have h2 := cnt_mem.mp q
      simp only [cnt_app] at h1 h2
      omega
    rw [upd_ne this]; exact y
  · rw [upd_ne n]; exact y
end
/-! ### places -/
structure SPl (c : VC) (W : WX) (t : TE) (i : Nat) (m : List Ent → R (T × (T → T))) : Prop where
  go : ∀ (M P Z H : Hp) (σ : St) (ρ : List Ent) (w : List Addr) (Q : VK), Ext M P → Base P Z H w → Slots c.ca H M Z σ ρ w → (match m ρ with
    | .ok uk ρ' => ∀ v H' Z', Ext H H' → Ext Z Z' → ZN P Z Z' → Base P Z' H' w → FocS c.ca M H' Z' σ ρ' w i v uk.1 uk.2 → Slots c.ca H' M Z' σ ρ' w → Q v H'
    | .err C d ρ' => ∀ x vd H' Z' w', Ext Z Z' → ZN P Z Z' → Base P Z' H' w' → Z' x = some (.xd [(c.ef C, vd)]) → Ow c.ca H' Z' vd d [] → Slots c.ca H' M Z' σ ρ' w' → W (.ref (c.ca.cl C)) (some x) σ H'
    | .fail => False) → t σ H Q
def mPlName (i : Nat) : List Ent → R (T × (T → T)) := fun ρ => match ρ[i]? with
  | some (.own t) => .ok (t, id) ρ
  | _ => .fail
def mPlFld (C x : Str) (m : List Ent → R (T × (T → T))) : List Ent → R (T × (T → T)) := fun ρ => (m ρ).bind fun uk ρ' => match uk.1 with
  | .ins true C' fs => if C' = C then (match getK fs x with
    | some u => .ok (u, fun t => uk.2 (.ins true C (putT fs x t))) ρ'
    | none => .fail) else .fail
  | _ => .fail
def mPlItem (m : List Ent → R (T × (T → T))) (mi : List Ent → R Ent) : List Ent → R (T × (T → T)) := fun ρ => (m ρ).bind fun uk ρ1 => (mi ρ1).bind fun e ρ2 => match uk.1 with
  | .lst true ts => (match e.t with
    | .int j => (match ixN ts.length j with
      | some n => (match ts[n]? with
        | some u => .ok (u, fun t => uk.2 (.lst true (ts.set n t))) ρ1
        | none => .fail)
      | none => .fail)
    | _ => .fail)
  | .dct true ps => (match e.t.key with
    | some k => (match getK ps k with
      | some u => .ok (u, fun t => uk.2 (.dct true (putT ps k t))) ρ1
      | none => .fail)
    | none => .fail)
  | _ => .fail
section
variable {c : VC} {W : WX} {t ti : TE} {i : Nat} {m : List Ent → R (T × (T → T))} {mi : List Ent → R Ent}
theorem SPl.name (i : Nat) : SPl c W (tV i) i (mPlName i) := by
  refine ⟨fun M P Z H σ ρ w Q mp b s hf => ?_⟩
  unfold mPlName at hf
  split at hf
  · rename_i uk ρ' e
    split at e
    · rename_i t et
      cases e
      obtain ⟨v, e1, f⟩ := FocS.name s et
      unfold tV
      rw [e1]
      exact hf v H Z (Ext.refl _) (Ext.refl _) ZN.refl b f s
    · cases e
  · rename_i e
    split at e <;> cases e
  · exact hf.elim
theorem SPl.item (h : SPl c W t i m) (h2 : SV c W true ti mi) : SPl c W (tOp rItem t ti) i (mPlItem m mi) := by
  refine ⟨fun M P Z H σ ρ w Q mp b s hf => ?_⟩
  unfold tOp
  refine h.go M P Z H σ ρ w _ mp b s ?_
  unfold mPlItem at hf
  cases e : m ρ with
  | fail => rw [e] at hf; exact hf
  | err C d ρ' => rw [e] at hf; exact hf
  | ok uk ρ' =>
    rw [e] at hf
    obtain ⟨u, k⟩ := uk
    dsimp only [R.bind] at hf ⊢
    intro v H1 Z1 x1 z1 n1 b1 f1 s1
    refine h2.go M P Z1 H1 σ ρ' w _ mp b1 s1 ?_
    cases e2 : mi ρ' with
    | fail => rw [e2] at hf; exact hf
    | err C d ρ2 =>
      rw [e2] at hf
      exact fun x vd H' Z' w' z n => hf x vd H' Z' w' (z1.trans z) (n1.trans n)
    | ok en ρ2 =>
      rw [e2] at hf
      dsimp only [R.bind] at hf
      intro iv H2 Z2 fp w2 z2 n2 b2 ev s2 ro
      obtain ⟨x2, rfl⟩ := ro rfl
      obtain ⟨g, o⟩ := ev.ow
      have f2 : FocS c.ca M H2 Z2 σ ρ' w2 i v u k := f1.mono x2 z2
      have s3 := s1.mono z2 fun a q o y => x2 a o y
      cases u with
      | lst o ts =>
        cases o with
        | false => exact hf.elim
        | true =>
          dsimp only at hf
          generalize en.t = tr at hf o
          cases tr with
          | int j =>
            obtain rfl := ow_int o
            dsimp only at hf
            cases g1 : ixN ts.length j with
            | none => rw [g1] at hf; exact hf.elim
            | some n =>
              rw [g1] at hf
              dsimp only at hf
              cases g2 : ts[n]? with
              | none => rw [g2] at hf; exact hf.elim
              | some u1 =>
                rw [g2] at hf
                obtain ⟨a, xs, y, rfl, e1, el, e2, f3⟩ := f2.idx g2
                simp only [rItem, rdo_of e1 (fun _ _ y => nomatch y), atI, el, g1, Option.bind_some, e2]
                exact hf y H2 Z2 (x1.trans x2) (z1.trans z2) (n1.trans n2) b2.drop f3 s3
          | non => exact hf.elim
          | bl k => exact hf.elim
          | str x => exact hf.elim
          | lst k ts => exact hf.elim
          | dct k ts => exact hf.elim
          | tup ts => exact hf.elim
          | scr ts => exact hf.elim
          | dtp _ _ _ => exact hf.elim
          | ins k C ts => exact hf.elim
      | dct o ps =>
        cases o with
        | false => exact hf.elim
        | true =>
          dsimp only at hf
          cases g0 : en.t.key with
          | none => rw [g0] at hf; exact hf.elim
          | some kk =>
            rw [g0] at hf
            dsimp only at hf
            cases g2 : getK ps kk with
            | none => rw [g2] at hf; exact hf.elim
            | some u1 =>
              rw [g2] at hf
              obtain ⟨a, ks, y, rfl, e1, e2, f3⟩ := f2.key g2
              simp only [rItem, e1, (ow_key o g0).1, valV_getK, e2]
              exact hf y H2 Z2 (x1.trans x2) (z1.trans z2) (n1.trans n2) b2.drop f3 s3
      | non => exact hf.elim
      | bl k => exact hf.elim
      | int i => exact hf.elim
      | str x => exact hf.elim
      | dtp _ _ _ => exact hf.elim
      | ins k C ts => exact hf.elim
      | tup ts => exact hf.elim
      | scr ts => exact hf.elim
end
end Rm
/-! Rm, part V8: what is changed at places. -/
namespace Rm
open PySem PySem.Spec L2
open PyProof.Rows hiding St
variable [Tb]
section
variable {ca : Ks} {M P Z Z' H H' : Hp} {w fp : List Addr} {σ : St} {ρ : List Ent} {i : Nat} {v : V} {u : T} {k : T → T}
theorem nd_off {a : Addr} {f0 fp : List Addr} (nd : (fp ++ (a :: f0)).Nodup) {x : Addr} (h : x ∈ f0 ∨ x ∈ fp) : x ≠ a := fun e => by
  subst e
  have h1 := nd_cnt.mp nd x
  simp only [cnt_app] at h1
  rw [cnt_cons] at h1
  have h3 : cnt x [x] = 1 := by simp [cnt]
  rcases h with h | h
  · have h2 := cnt_mem.mp h
    omega
  · have h2 := cnt_mem.mp h
    omega
/-- a list's items are changed -/
theorem FocS.lst {ts : List T} (b : Base P Z H (fp ++ w)) (f : FocS ca M H Z σ ρ w i v (.lst true ts) k) : ∃ a xs, v = .ref a ∧ H a = some (.lst xs) ∧ xs.length = ts.length ∧
    ∀ {xs' : List V} {ts' : List T}, (∀ f0, OwA ca H Z xs ts f0 → ∃ f', (∀ x, cnt x f' ≤ cnt x f0 + cnt x fp) ∧ OwA ca H Z xs' ts' f') →
      ∃ w', Base P Z (L2.upd H a (.lst xs')) w' ∧ Slots ca (L2.upd H a (.lst xs')) M Z σ (ρ.set i (.own (k (.lst true ts')))) w' := by
  obtain ⟨L, m, R, e, o, kk⟩ := id f.ex
  cases o with
  | @lstO a xs _ f0 e1 A =>
    refine ⟨a, xs, rfl, e1, A.length, fun {xs' ts'} g => ?_⟩
    refine FocS.upd b f fun m ow nd => ?_
    cases ow with
    | @lstO _ xs1 _ f1 e2 A1 =>
      have : xs1 = xs := by rw [e1] at e2; cases e2; rfl
      subst this
      obtain ⟨f', hc, A'⟩ := g f1 A1
      refine ⟨List.mem_cons_self, a :: f', fun x => ?_, fun {H'} hh hn => .lstO hn (A'.mono (Ext.refl _) fun x q o y => ?_)⟩
      · have := hc x
        rw [cnt_cons, cnt_cons (a := f1)]; omega
      · have q2 : x ∈ f1 ∨ x ∈ fp := by
          have h1 := hc x
          have h2 := cnt_mem.mp q
          by_cases z : 0 < cnt x f1
          · exact Or.inl (cnt_mem.mpr z)
          · exact Or.inr (cnt_mem.mpr (by omega))
        exact hh x (by simp; rcases q2 with z | z <;> simp [z]) (nd_off nd q2) o y
theorem FocS.dct {ps : List (Key × T)} (b : Base P Z H (fp ++ w)) (f : FocS ca M H Z σ ρ w i v (.dct true ps) k) : ∃ a ks, v = .ref a ∧ H a = some (.dK ks) ∧ ks.map (·.1) = ps.map (·.1) ∧ (ks.map (·.1)).Nodup ∧
    ∀ {ks' : List (Key × V)} {ps' : List (Key × T)}, ks'.map (·.1) = ps'.map (·.1) → (ps'.map (·.1)).Nodup → (∀ f0, OwA ca H Z (ks.map (·.2)) (ps.map (·.2)) f0 → ∃ f', (∀ x, cnt x f' ≤ cnt x f0 + cnt x fp) ∧ OwA ca H Z (ks'.map (·.2)) (ps'.map (·.2)) f') →
      ∃ w', Base P Z (L2.upd H a (.dK ks')) w' ∧ Slots ca (L2.upd H a (.dK ks')) M Z σ (ρ.set i (.own (k (.dct true ps')))) w' := by
  obtain ⟨L, m, R, e, o, kk⟩ := id f.ex
  cases o with
  | @dctO a ks _ f0 e1' ek A n0 =>
    have e1 : H a = some (.dK ks) := (b.hw a (by rw [e]; simp)).rd e1'
    refine ⟨a, ks, rfl, e1, ek, by rw [ek]; exact n0, fun {ks' ps'} ek' nn g => ?_⟩
    refine FocS.upd b f fun m ow nd => ?_
    cases ow with
    | @dctO _ ks1 _ f1 e2 ek1 A1 _ =>
      have : ks1 = ks := by rw [e1'] at e2; cases e2; rfl
      subst this
      obtain ⟨f', hc, A'⟩ := g f1 A1
      refine ⟨List.mem_cons_self, a :: f', fun x => ?_, fun {H'} hh hn => .dctO (rdo_of hn fun _ _ y => nomatch y) ek' (A'.mono (Ext.refl _) fun x q o y => ?_) nn⟩
      · have := hc x
        rw [cnt_cons, cnt_cons (a := f1)]; omega
      · have q2 : x ∈ f1 ∨ x ∈ fp := by
          have h1 := hc x
          have h2 := cnt_mem.mp q
          by_cases z : 0 < cnt x f1
          · exact Or.inl (cnt_mem.mpr z)
          · exact Or.inr (cnt_mem.mpr (by omega))
        exact hh x (by simp; rcases q2 with z | z <;> simp [z]) (nd_off nd q2) o y
theorem FocS.dtp {zs : List (List Key)} {ps : List T} (b : Base P Z H (fp ++ w)) (f : FocS ca M H Z σ ρ w i v (.dtp true zs ps) k) : ∃ a ks, v = .ref a ∧ H a = some (.dT ks) ∧ ks.map (·.1) = zs ∧ zs.Nodup ∧
    ∀ {ks' : List (List Key × V)} {zs' : List (List Key)} {ps' : List T}, ks'.map (·.1) = zs' → zs'.Nodup → (∀ f0, OwA ca H Z (ks.map (·.2)) ps f0 → ∃ f', (∀ x, cnt x f' ≤ cnt x f0 + cnt x fp) ∧ OwA ca H Z (ks'.map (·.2)) ps' f') →
      ∃ w', Base P Z (L2.upd H a (.dT ks')) w' ∧ Slots ca (L2.upd H a (.dT ks')) M Z σ (ρ.set i (.own (k (.dtp true zs' ps')))) w' := by
  obtain ⟨L, m, R, e, o, kk⟩ := id f.ex
  cases o with
  | @dtpO a ks _ _ f0 e1' ek A n0 =>
    have e1 : H a = some (.dT ks) := (b.hw a (by rw [e]; simp)).rd e1'
    refine ⟨a, ks, rfl, e1, ek, n0, fun {ks' zs' ps'} ek' nn g => ?_⟩
    refine FocS.upd b f fun m ow nd => ?_
    cases ow with
    | @dtpO _ ks1 _ _ f1 e2 ek1 A1 _ =>
      have : ks1 = ks := by rw [e1'] at e2; cases e2; rfl
      subst this
      obtain ⟨f', hc, A'⟩ := g f1 A1
      refine ⟨List.mem_cons_self, a :: f', fun x => ?_, fun {H'} hh hn => .dtpO (rdo_of hn fun _ _ y => nomatch y) ek' (A'.mono (Ext.refl _) fun x q o y => ?_) nn⟩
      · have := hc x
        rw [cnt_cons, cnt_cons (a := f1)]; omega
      · have q2 : x ∈ f1 ∨ x ∈ fp := by
          have h1 := hc x
          have h2 := cnt_mem.mp q
          by_cases z : 0 < cnt x f1
          · exact Or.inl (cnt_mem.mpr z)
          · exact Or.inr (cnt_mem.mpr (by omega))
        exact hh x (by simp; rcases q2 with z | z <;> simp [z]) (nd_off nd q2) o y
theorem putT_in {κ α : Type} [DecidableEq κ] : ∀ {ks : List (κ × α)} {k : κ} {v : α}, k ∈ ks.map (·.1) → (putT ks k v).map (·.1) = ks.map (·.1)
  | [], _, _, h => by simp at h
  | (k', x) :: r, k, v, h => by
    unfold putT
    by_cases q : k' = k
    · rw [if_pos q]; simp [q]
    · rw [if_neg q, List.map_cons, List.map_cons, putT_in (ks := r) (by simpa [Ne.symm q] using h)]
theorem putK_new {kvs : List (List Key × V)} {k : List Key} {v : V} (h : k ∉ kvs.map (·.1)) : putK kvs k v = kvs ++ [(k, v)] := by
  unfold putK
  rw [if_neg]
  intro q
  obtain ⟨x, hx, e⟩ := List.any_eq_true.mp q
  exact h (List.mem_map.mpr ⟨x, hx, of_decide_eq_true e⟩)
theorem FocS.ins {C : Str} {ps : List (Str × T)} (b : Base P Z H (fp ++ w)) (f : FocS ca M H Z σ ρ w i v (.ins true C ps) k) : ∃ a dx ks, v = .ref a ∧ H a = some (.ins (ca.cl C) dx ks) ∧ ks.map (·.1) = ps.map (·.1) ∧
    ∀ {ks' : List (Str × V)} {ps' : List (Str × T)}, ks'.map (·.1) = ps'.map (·.1) → ((ps.map (·.1)).Nodup → (ps'.map (·.1)).Nodup) → (∀ f0, OwA ca H Z (ks.map (·.2)) (ps.map (·.2)) f0 → ∃ f', (∀ x, cnt x f' ≤ cnt x f0 + cnt x fp) ∧ OwA ca H Z (ks'.map (·.2)) (ps'.map (·.2)) f') →
      ∃ w', Base P Z (L2.upd H a (.ins (ca.cl C) dx ks')) w' ∧ Slots ca (L2.upd H a (.ins (ca.cl C) dx ks')) M Z σ (ρ.set i (.own (k (.ins true C ps')))) w' := by
  obtain ⟨L, m, R, e, o, kk⟩ := id f.ex
  cases o with
  | @insO a dx _ ks _ f0 e1 ek A n0 =>
    refine ⟨a, dx, ks, rfl, e1, ek, fun {ks' ps'} ek' nn g => ?_⟩
    refine FocS.upd b f fun m ow nd => ?_
    cases ow with
    | @insO _ dx1 _ ks1 _ f1 e2 ek1 A1 _ =>
      have : ks1 = ks := by rw [e1] at e2; cases e2; rfl
      subst this
      obtain ⟨f', hc, A'⟩ := g f1 A1
      refine ⟨List.mem_cons_self, a :: f', fun x => ?_, fun {H'} hh hn => .insO hn ek' (A'.mono (Ext.refl _) fun x q o y => ?_) (nn n0)⟩
      · have := hc x
        rw [cnt_cons, cnt_cons (a := f1)]; omega
      · have q2 : x ∈ f1 ∨ x ∈ fp := by
          have h1 := hc x
          have h2 := cnt_mem.mp q
          by_cases z : 0 < cnt x f1
          · exact Or.inl (cnt_mem.mpr z)
          · exact Or.inr (cnt_mem.mpr (by omega))
        exact hh x (by simp; rcases q2 with z | z <;> simp [z]) (nd_off nd q2) o y
end
/-! ### o.f = e -/
/-- the tree with a field set -/
def setFld (C f : Str) (t : T) : T → Option T := fun u => match u with
  | .ins true C' fs => if C' = C ∧ fs.length < 1000 then some (.ins true C (putT fs f t)) else none
  | _ => none
def mSetF (i : Nat) (C f : Str) (mp : List Ent → R (T × (T → T))) (me : List Ent → R Ent) : List Ent → O := fun ρ => (me ρ).then fun e ρ1 => (mp ρ1).then fun uk ρ2 => match e.keep with
  | some t => (match setFld C f t uk.1 with
    | some u => .nx (ρ2.set i (.own (uk.2 u)))
    | none => .fail)
  | none => .fail
/-- o[i] = e -/
def setIx (ix t : T) : T → Option T := fun u => match u with
  | .lst true ts => (match ix with
    | .int j => (match ixN ts.length j with
      | some n => some (.lst true (ts.set n t))
      | none => none)
    | _ => none)
  | .dct true ps => (match ix.key with
    | some k => if ps.length < sizeLine then some (.dct true (putT ps k t)) else none
    | none => none)
  | .dtp true zs ts => (match ix with
    | .tup us => (match keysT us with
      | some k => if ts.length < sizeLine ∧ (zs.any fun z => decide (z = k)) = false then some (.dtp true (zs ++ [k]) (ts ++ [t])) else if ts.length < sizeLine then some (.dtp true zs ((putT (zs.zip ts) k t).map (·.2))) else none
      | none => none)
    | _ => none)
  | _ => none
def mSetI (i : Nat) (mp : List Ent → R (T × (T → T))) (mi me : List Ent → R Ent) : List Ent → O := fun ρ => (me ρ).then fun e ρ1 => (mp ρ1).then fun uk ρ2 => (mi ρ2).then fun ei _ => match e.keep with
  | some t => (match setIx ei.t t uk.1 with
    | some u => .nx (ρ2.set i (.own (uk.2 u)))
    | none => .fail)
  | none => .fail
section
variable {F : FC} {W : WX} {r : Bool} {te to ti : TE} {i : Nat} {mp : List Ent → R (T × (T → T))} {me mi : List Ent → R Ent}
theorem SS.setF (C f : Str) (hp : SPl F.c W to i mp) (he : SV F.c W r te me) : SS F W (tSF (F.c.ca.cl C) f to te) (mSetF i C f mp me) := by
  refine ⟨fun M P Z H σ ρ w D mp' b s pn hf => ?_⟩
  refine he.go M P Z H σ ρ w _ mp' b s ?_
  unfold mSetF at hf
  cases e : me ρ with
  | fail => rw [e] at hf; exact hf
  | err C d ρ' => rw [e] at hf; exact fin_err pn hf
  | ok en ρ1 =>
    rw [e] at hf
    dsimp only [R.then] at hf
    intro y H1 Z1 fp w1 z1 n1 b1 ev s1 ro
    refine hp.go M (Rm.out w1 H1) Z1 H1 σ ρ1 w1 _ (mp'.trans b1.le) b1.out s1 ?_
    cases e2 : mp ρ1 with
    | fail => rw [e2] at hf; exact hf
    | err C d ρ2 =>
      rw [e2] at hf
      exact fun x vd H2 Z2 w2 z2 n2 b2 hx o s2 => fin_err pn hf x vd H2 Z2 w2 (z1.trans z2) (n1.trans (n2.of b1.le)) (b2.less b1.le) hx o s2
    | ok uk ρ2 =>
      rw [e2] at hf
      dsimp only at hf ⊢
      intro v H2 Z2 x2 z2 n2 b2 fo s2
      split at hf
      rotate_left
      · exact hf.elim
      rename_i t et
      have b2' := Base.join (fp := fp) (f := []) (w' := w1) b1 b2 n2
      rw [List.append_nil] at b2'
      have ot := (ev.keep et).mono z2 fun a q o y => x2 a o y
      cases eu : setFld C f t uk.1 with
      | none => rw [eu] at hf; exact hf.elim
      | some u' =>
        rw [eu] at hf
        obtain ⟨u, k⟩ := uk
        unfold setFld at eu
        dsimp only at eu fo hf
        split at eu
        · rename_i C' fs
          split at eu
          · rename_i q
            obtain ⟨rfl, hl⟩ := q
            cases eu
            obtain ⟨a, dx, ks, rfl, ea, ek, kk⟩ := FocS.ins b2' fo
            obtain ⟨w3, b3, s3⟩ := kk (ks' := putT ks f y) (ps' := putT fs f t) (putT_keys (fun _ _ _ => True) ek) putT_nodup (fun f0 A => (OwP.put ek A ot).imp fun f' ⟨a, b⟩ => ⟨b, a⟩)
            have hl2 : ks.length = fs.length := by have := congrArg List.length ek; simpa using this
            simp only [ea]
            refine ⟨⟨trivial, by omega⟩, ?_⟩
            rw [putF_putT]
            exact hf σ _ Z2 w3 (z1.trans z2) (n1.trans (n2.of b1.le)) b3 s3 pn
          · cases eu
        · cases eu
theorem SS.setI (hp : SPl F.c W to i mp) (hi : SV F.c W true ti mi) (he : SV F.c W r te me) : SS F W (tAsg te (gSub to ti rStore)) (mSetI i mp mi me) := by
  refine ⟨fun M P Z H σ ρ w D mp' b s pn hf => ?_⟩
  refine he.go M P Z H σ ρ w _ mp' b s ?_
  unfold mSetI at hf
  cases e : me ρ with
  | fail => rw [e] at hf; exact hf
  | err C d ρ' => rw [e] at hf; exact fin_err pn hf
  | ok en ρ1 =>
    rw [e] at hf
    dsimp only [R.then] at hf
    intro y H1 Z1 fp w1 z1 n1 b1 ev s1 ro
    unfold gSub
    refine hp.go M (Rm.out w1 H1) Z1 H1 σ ρ1 w1 _ (mp'.trans b1.le) b1.out s1 ?_
    cases e2 : mp ρ1 with
    | fail => rw [e2] at hf; exact hf
    | err C d ρ2 =>
      rw [e2] at hf
      exact fun x vd H2 Z2 w2 z2 n2 b2 hx o s2 => fin_err pn hf x vd H2 Z2 w2 (z1.trans z2) (n1.trans (n2.of b1.le)) (b2.less b1.le) hx o s2
    | ok uk ρ2 =>
      rw [e2] at hf
      dsimp only at hf ⊢
      intro v H2 Z2 x2 z2 n2 b2 fo s2
      have b2' := Base.join (fp := fp) (f := []) (w' := w1) b1 b2 n2
      rw [List.append_nil] at b2'
      refine hi.go M (Rm.out w1 H2) Z2 H2 σ ρ2 w1 _ (mp'.trans b2'.le) b2'.out s2 ?_
      cases e3 : mi ρ2 with
      | fail => rw [e3] at hf; exact hf
      | err C d ρ3 =>
        rw [e3] at hf
        exact fun x vd H3 Z3 w3 z3 n3 b3 hx o s3 => fin_err pn hf x vd H3 Z3 w3 ((z1.trans z2).trans z3) ((n1.trans (n2.of b1.le)).trans (n3.of b2'.le)) (b3.less b2'.le) hx o s3
      | ok ei ρ3 =>
      rw [e3] at hf
      dsimp only at hf ⊢
      intro iv H3 Z3 fi w3 z3 n3 b3 evi s3 ro3
      obtain ⟨x3, rfl⟩ := ro3 rfl
      obtain ⟨gi, oi⟩ := evi.ow
      have b3' := Base.join (fp := fp) (f := []) (w' := w3) b2' b3.drop n3
      rw [List.append_nil] at b3'
      have fo3 := fo.mono x3 z3
      split at hf
      rotate_left
      · exact hf.elim
      rename_i t et
      have ot := ((ev.keep et).mono z2 fun a q o y => x2 a o y).mono z3 fun a q o y => x3 a o y
      cases eu : setIx ei.t t uk.1 with
      | none => rw [eu] at hf; exact hf.elim
      | some u' =>
        rw [eu] at hf
        obtain ⟨u, k⟩ := uk
        unfold setIx at eu
        dsimp only at eu fo3 hf
        have fin := fun (H4 : Hp) (w4 : List Addr) b4 s4 => hf σ H4 Z3 w4 ((z1.trans z2).trans z3) ((n1.trans (n2.of b1.le)).trans (n3.of b2'.le)) b4 s4 pn
        generalize ei.t = tr at eu oi
        split at eu
        · rename_i ts
          split at eu
          · rename_i j
            obtain rfl := ow_int oi
            split at eu
            · rename_i n en'
              cases eu
              obtain ⟨a, xs, rfl, ea, el, kk⟩ := FocS.lst b3' fo3
              have hn : n < ts.length := (ixN_seq en').2.1
              obtain ⟨w4, b4, s4⟩ := kk (xs' := xs.set n y) (ts' := ts.set n t) (fun f0 A => by
                obtain ⟨l, m, r, y0, f1, f2, o1, k1⟩ := A.foc (List.getElem?_eq_getElem hn)
                exact ⟨_, fun x => by rw [f1]; simp only [cnt_app]; omega, k1 (v' := y) (u' := t) (fun _ _ _ y => y) (Ext.refl _) ot⟩)
              simp only [rStore, ea, el, en']
              exact fin _ w4 b4 s4
            · cases eu
          · cases eu
        · rename_i ps
          split at eu
          · rename_i kq eq
            split at eu
            · rename_i hl
              cases eu
              obtain ⟨a, ks, rfl, ea, ek, nn, kk⟩ := FocS.dct b3' fo3
              obtain ⟨w4, b4, s4⟩ := kk (ks' := putT ks kq y) (ps' := putT ps kq t) (putT_keys (fun _ _ _ => True) ek) (putT_nodup (by rw [← ek]; exact nn)) (fun f0 A => (OwP.put ek A ot).imp fun f' ⟨a, b⟩ => ⟨b, a⟩)
              have hl2 : ks.length = ps.length := by have := congrArg List.length ek; simpa using this
              simp only [rStore, ea, (ow_key oi eq).1]
              refine ⟨by omega, ?_⟩
              rw [putK_putT nn]
              exact fin _ w4 b4 s4
            · cases eu
          · cases eu
        · rename_i zs ts
          split at eu
          · rename_i us
            split at eu
            · rename_i kq eq
              split at eu
              · rename_i hl
                cases eu
                obtain ⟨a, ks, rfl, ea, ek, nn, kk⟩ := FocS.dtp b3' fo3
                obtain ⟨c, ys, rfl, ec, _, A2⟩ := ow_tup b3' oi
                have hnz : kq ∉ zs := fun q => by have := List.any_eq_false.mp hl.2 kq q; simp at this
                have hnk : kq ∉ ks.map (·.1) := by rw [ek]; exact hnz
                have hl2 : ks.length = ts.length := by
                  obtain ⟨L, m, R, _, o, _⟩ := fo3.ex
                  obtain ⟨a2, ks2, f2, e1, e2, e3, A3⟩ := ow_dtp b3' o
                  cases e1
                  rw [rdo_of ea (fun _ _ y => nomatch y)] at e2
                  cases e2
                  have := A3.length
                  simpa using this
                obtain ⟨w4, b4, s4⟩ := kk (ks' := ks ++ [(kq, y)]) (zs' := zs ++ [kq]) (ps' := ts ++ [t]) (by rw [List.map_append, ek]; rfl) (List.nodup_append.mpr ⟨nn, by simp, fun a q b q2 => by rw [List.mem_singleton.mp q2]; exact fun e => hnz (e ▸ q)⟩) (fun f0 A => ⟨f0 ++ fp, fun x => by rw [cnt_app]; omega, by rw [List.map_append]; exact A.append1 ot⟩)
                simp only [rStore, ea, ec, keysT_ow A2 eq]
                refine ⟨by omega, ?_⟩
                rw [putK_new hnk]
                exact fin _ w4 b4 s4
              · split at eu
                · rename_i hl0 hl
                  cases eu
                  obtain ⟨a, ks, rfl, ea, ek, nn, kk⟩ := FocS.dtp b3' fo3
                  obtain ⟨c, ys, rfl, ec, _, A2⟩ := ow_tup b3' oi
                  have hin : kq ∈ zs := Classical.byContradiction fun q => hl0 ⟨hl, List.any_eq_false.mpr fun z hz e => q (of_decide_eq_true e ▸ hz)⟩
                  have hl2 : ks.length = ts.length := by
                    obtain ⟨L, m, R, _, o, _⟩ := fo3.ex
                    obtain ⟨a2, ks2, f2, e1, e2, e3, A3⟩ := ow_dtp b3' o
                    cases e1
                    rw [rdo_of ea (fun _ _ y => nomatch y)] at e2
                    cases e2
                    have := A3.length
                    simpa using this
                  have hl3 : zs.length = ts.length := by rw [← ek, List.length_map]; exact hl2
                  have hz1 : (zs.zip ts).map (·.1) = zs := List.map_fst_zip (by omega)
                  have hz2 : (zs.zip ts).map (·.2) = ts := List.map_snd_zip (by omega)
                  obtain ⟨w4, b4, s4⟩ := kk (ks' := putT ks kq y) (zs' := zs) (ps' := (putT (zs.zip ts) kq t).map (·.2)) (by rw [putT_in (by rw [ek]; exact hin)]; exact ek) nn (fun f0 A => (OwP.put (by rw [ek, hz1]) (by rw [hz2]; exact A) ot).imp fun f' ⟨a, b⟩ => ⟨b, a⟩)
                  simp only [rStore, ea, ec, keysT_ow A2 eq]
                  refine ⟨by omega, ?_⟩
                  rw [putK_putT (by rw [ek]; exact nn)]
                  exact fin _ w4 b4 s4
                · cases eu
            · cases eu
          · cases eu
        · cases eu
end
/-! ### methods that change a list -/
/-- what a method makes of the node, and what it gives -/
structure Mut (ca : Ks) (r : V → List V → Hp → VK → Prop) (f : T → List Ent → Option (T × T)) : Prop where
  go : ∀ (M P Z H : Hp) (σ : St) (ρ : List Ent) (fp w : List Addr) (i : Nat) (v : V) (u u' res : T) (k : T → T) (vs : List V) (es : List Ent) (Q : VK), Base P Z H (fp ++ w) → FocS ca M H Z σ ρ w i v u k → EntVs ca H Z vs es fp → f u es = some (u', res) →
    (∀ H' w' y, Base P Z H' w' → Slots ca H' M Z σ (ρ.set i (.own (k u'))) w' → Ow ca H' Z y res [] → Q y H') → r v vs H Q
def T.isL : T → Bool
  | .lst _ _ => true
  | _ => false
/-- o.m(e, ..), the arguments are read only -/
def mMeth (i : Nat) (f : T → List Ent → Option (T × T)) (mp : List Ent → R (T × (T → T))) (ms : List Ent → R (List Ent)) : List Ent → R Ent := fun ρ => (mp ρ).bind fun uk ρ1 => if uk.1.isL = true then (ms ρ1).bind fun es _ => match f uk.1 es with
  | some (u, res) => .ok (.own res) (ρ1.set i (.own (uk.2 u)))
  | none => .fail else .fail
section
variable {c : VC} {W : WX} {r : Bool} {K : PySem.W.Frag} {to : TE} {ta : TA} {i : Nat} {mp : List Ent → R (T × (T → T))} {ms : List Ent → R (List Ent)} {rd : V → List V → Hp → VK → Prop} {f : T → List Ent → Option (T × T)}
theorem tyV_lst {H : Hp} {a : Addr} {xs : List V} (h : H a = some (.lst xs)) : tyV K "list" (.ref a) H := Or.inl ⟨rfl, xs, Or.inl (Or.inl h)⟩
theorem SV.meth (mu : Mut c.ca rd f) (hp : SPl c W to i mp) (h : SA c W true ta ms) : SV c W false (tBM K "list" rd to ta) (mMeth i f mp ms) := by
  refine ⟨fun M P Z H σ ρ w Q mp' b s hf => ?_⟩
  unfold tBM
  refine hp.go M P Z H σ ρ w _ mp' b s ?_
  unfold mMeth at hf
  cases e : mp ρ with
  | fail => rw [e] at hf; exact hf
  | err C d ρ' => rw [e] at hf; exact hf
  | ok uk ρ1 =>
    rw [e] at hf
    obtain ⟨u, k⟩ := uk
    dsimp only [R.bind] at hf ⊢
    intro v H1 Z1 x1 z1 n1 b1 fo s1
    split at hf
    rotate_left
    · exact hf.elim
    rename_i hl
    have ty : tyV K "list" v H1 := by
      obtain ⟨L, m, R, e, o, _⟩ := fo.ex
      cases u with
      | lst o' ts =>
        obtain ⟨a, xs, _, rfl, ea, _⟩ := ow_lst b1 o
        exact tyV_lst ea
      | _ => cases hl
    refine ⟨ty, h.go M P Z1 H1 σ ρ1 w _ mp' b1 s1 ?_⟩
    cases e2 : ms ρ1 with
    | fail => rw [e2] at hf; exact hf
    | err C d ρ2 =>
      rw [e2] at hf
      exact fun x vd H2 Z2 w2 z2 n2 => hf x vd H2 Z2 w2 (z1.trans z2) (n1.trans n2)
    | ok es ρ2 =>
      rw [e2] at hf
      dsimp only at hf ⊢
      intro vs H2 Z2 fp w2 z2 n2 b2 evs s2 ro
      obtain ⟨x2, rfl⟩ := ro rfl
      cases ef : f u es with
      | none => rw [ef] at hf; exact hf.elim
      | some q =>
        obtain ⟨u', res⟩ := q
        rw [ef] at hf
        exact mu.go M P Z2 H2 σ ρ1 fp w2 i v u u' res k vs es Q b2 (fo.mono x2 z2) evs ef fun H3 w3 y b3 s3 oy => hf y H3 Z2 [] w3 (z1.trans z2) (n1.trans n2) b3 (.own oy) s3 fun q => nomatch q
end
end Rm
/-! Rm, part V9: promises by meaning; calls. -/
namespace Rm
open PySem PySem.Spec L2
open PyProof.Rows hiding St
variable [Tb]
/-- what is wanted behind a call -/
def FinF (c : VC) (P Z : Hp) (vs : List V) (Q : VK) (E : XK) : R Ent → Prop
  | .ok e ρ' => ∀ v H' Z' fp w', Ext Z Z' → ZN P Z Z' → Base P Z' H' (fp ++ w') → EntV c.ca H' Z' v e fp → Slots c.ca H' P Z' (vs.map some) ρ' w' → Q v H'
  | .err C d ρ' => ∀ x vd H' Z' w', Ext Z Z' → ZN P Z Z' → Base P Z' H' w' → Z' x = some (.xd [(c.ef C, vd)]) → Ow c.ca H' Z' vd d [] → Slots c.ca H' P Z' (vs.map some) ρ' w' → E (.ref (c.ca.cl C)) (some x) H'
  | .fail => False
/-- no exception is at hand -/
abbrev VC.base (c : VC) : VC := ⟨⟨c.ca.cl, fun _ => none⟩, c.ef⟩
/-- the promise of a def that means m -/
def spV (c : VC) (n : Nat) (m : List Ent → R Ent) : Sp := fun vs H Q E => vs.length = n ∧ ∃ Z w ρ, Base (out w H) Z H w ∧ Slots c.base.ca H (out w H) Z (vs.map some) ρ w ∧ FinF c.base (out w H) Z vs Q E (m ρ)
/-- .. of a def that keeps no tables -/
abbrev spV0 (c : VC) (n : Nat) (m : List Ent → R Ent) : Sp := @spV Tb.none c n m
/-- the heap without what is owned (tables stand in it) -/
def out0 (w : List Addr) (H : Hp) : Hp := @out Tb.none w H
theorem out0_some {w : List Addr} {H : Hp} {a : Addr} {o : HO} (h : out0 w H a = some o) : a ∉ w ∧ H a = some o := by
  unfold out0 out at h
  split at h
  · cases h
  · rename_i n; exact ⟨fun q => n (.inl q), h⟩
theorem out0_of {w : List Addr} {H : Hp} {a : Addr} {o : HO} (n : a ∉ w) (h : H a = some o) : out0 w H a = some o := by
  unfold out0 out
  rw [if_neg (fun q => q.elim n fun q => by cases q)]; exact h
theorem out0_in {w : List Addr} {H : Hp} {a : Addr} (h : a ∈ w) : out0 w H a = none := by
  unfold out0 out
  rw [if_pos (.inl h)]
/-- tables behind a call of a def that keeps none -/
theorem TbOk.call0 {T T2 : List (Addr × Str)} {P Z1 Z2 H1 H2 Mc : Hp} {w2 : List Addr} (tb : TbOk T P Z1 H1) (keep : ∀ a o, H1 a = some o → isTC o → Mc a = some o) (b2 : BaseT T2 Mc Z2 H2 w2) : TbOk T P Z2 H2 :=
  ⟨tb.m, b2.tb.z, tabs_keep tb.t fun a o e tc => b2.m _ _ (keep a o e tc)⟩
theorem spV_len {c : VC} {n : Nat} {m : List Ent → R Ent} {vs : List V} {H : Hp} {Q : VK} {E : XK} (h : spV c n m vs H Q E) : vs.length = n := h.1
/-- what becomes of the parameters -/
def finP : List Bool → List Ent → List Ent
  | true :: bs, e :: ρ => e :: finP bs ρ
  | false :: bs, _ :: ρ => .no :: finP bs ρ
  | _, _ => []
def mDef (bs : List Bool) (k : Nat) (mb : List Ent → O) : List Ent → R Ent := fun ρ => if ρ.length = bs.length then match mb (ρ ++ List.replicate k .no) with
  | .nx ρ' => .ok (.own .non) (finP bs ρ')
  | .rt e ρ' => .ok e (finP bs ρ')
  | .err C d ρ' => .err C d (finP bs ρ')
  | _ => .fail else .fail
theorem mDef_len {bs : List Bool} {k : Nat} {mb : List Ent → O} : ∀ ρ, ρ.length ≠ bs.length → mDef bs k mb ρ = .fail := fun ρ h => if_neg h
section
variable {ca : Ks} {M P Z Z' H H' : Hp} {w fp : List Addr} {σ : St} {ρ : List Ent}
theorem Slots.append {σ' : St} {ρ' : List Ent} {w' : List Addr} : ∀ {σ : St} {ρ : List Ent} {w : List Addr}, Slots ca H M Z σ ρ w → Slots ca H M Z σ' ρ' w' → Slots ca H M Z (σ ++ σ') (ρ ++ ρ') (w ++ w')
  | _, _, _, .nil, b => b
  | _, _, _, .cons a s, b => by
    have q := Slots.cons a (Slots.append s b)
    simpa [List.append_assoc] using q
theorem Slots.nos : ∀ n : Nat, Slots ca H M Z (List.replicate n none) (List.replicate n .no) []
  | 0 => .nil
  | n + 1 => by
    have q := Slots.cons (x := none) (.no (ca := ca) (H := H) (M := M) (Z := Z)) (Slots.nos n)
    simpa [List.replicate_succ] using q
theorem Slots.fin {ca : Ks} {M Z H : Hp} : ∀ {bs : List Bool} {vs : List V} {σ : St} {ρ : List Ent} {w : List Addr}, Slots ca H M Z σ ρ w → bs.length = vs.length → vs.length ≤ σ.length → (∀ i : Nat, bs[i]? = some true → σ[i]? = (vs[i]?).map some) →
    ∃ w', (∀ x, cnt x w' ≤ cnt x w) ∧ Slots ca H M Z (vs.map some) (finP bs ρ) w'
  | [], [], _, _, _, s, _, _, _ => ⟨[], fun _ => by simp [cnt], by cases s <;> exact .nil⟩
  | [], _ :: _, _, _, _, _, e, _, _ => nomatch e
  | _ :: _, [], _, _, _, _, e, _, _ => nomatch e
  | b :: bs, v :: vs, _, _, _, .nil, _, l, _ => by simp at l
  | b :: bs, v :: vs, _, _, _, .cons (x := x) (e := en) (f := f) a s, e, l, h => by
    obtain ⟨w', hc, s'⟩ := Slots.fin (bs := bs) (vs := vs) s (by simpa using e) (by simpa using l) (fun i q => by simpa using h (i + 1) (by simpa using q))
    cases b with
    | true =>
      have q := h 0 rfl
      simp at q
      subst q
      exact ⟨f ++ w', fun y => by have := hc y; simp only [cnt_app]; omega, .cons a s'⟩
    | false =>
      refine ⟨w', fun y => by have := hc y; simp only [cnt_app]; omega, ?_⟩
      exact .cons (f := []) .no s'
end
def bsOk (bs : List Bool) (pin : List Nat) : Bool := (List.range bs.length).all fun i => !(bs.getD i false) || pin.contains i
theorem bsOk_at {bs : List Bool} {pin : List Nat} (h : bsOk bs pin = true) : ∀ i : Nat, bs[i]? = some true → i ∈ pin := fun i q => by
  have hi := (List.getElem?_eq_some_iff.mp q).1
  have := List.all_eq_true.mp h i (List.mem_range.mpr hi)
  rw [List.getD_eq_getElem?_getD, q] at this
  simpa using this
/-- a def's body keeps its promise -/
theorem body_ok {c : VC} {N : List Str} {pin : List Nat} {bs : List Bool} {k : Nat} {vs : List V} {E : XK} {t : TS} {mb : List Ent → O} {H : Hp} {Q : VK} (S : SS ⟨c.base, pin, L2.start N vs⟩ (fun cls d _ H => E cls d H) t mb)
    (hp' : bsOk bs pin = true) (hN : N.length = bs.length + k) (h : spV c bs.length (mDef bs k mb) vs H Q E) : t { nx := fun _ H' => Q .non H', rt := Q } (L2.start N vs) H := by
  have hp := bsOk_at hp'
  obtain ⟨hl, Z, w, ρ, b, s, f⟩ := h
  have est : L2.start N vs = vs.map some ++ List.replicate k none := by
    unfold L2.start
    congr 2
    omega
  have s0 : Slots c.base.ca H (out w H) Z (L2.start N vs) (ρ ++ List.replicate k .no) w := by
    rw [est]
    have q := s.append (Slots.nos k)
    simpa using q
  have hv : ∀ {σ' : St}, Pin pin (L2.start N vs) σ' → ∀ i : Nat, bs[i]? = some true → σ'[i]? = (vs[i]?).map some := fun {σ'} pn i q => by
    rw [pn.at_ i (hp i q), est]
    have hi : i < vs.length := by
      have := (List.getElem?_eq_some_iff.mp q).1
      omega
    rw [List.getElem?_append_left (by simpa using hi), List.getElem?_map]
  refine S.go (out w H) (out w H) Z H (L2.start N vs) _ w _ (Ext.refl _) b s0 ⟨fun i _ => rfl, rfl⟩ ?_
  unfold mDef at f
  split at f
  rotate_left
  · exact f.elim
  have fin : ∀ {σ' : St} {H' Z' : Hp} {ρ' : List Ent} {w' : List Addr}, Slots c.base.ca H' (out w H) Z' σ' ρ' w' → Pin pin (L2.start N vs) σ' → ∃ w2, (∀ x, cnt x w2 ≤ cnt x w') ∧ Slots c.base.ca H' (out w H) Z' (vs.map some) (finP bs ρ') w2 :=
    fun s pn => s.fin hl.symm (by rw [pn.len, est]; simp) (hv pn)
  cases e : mb (ρ ++ List.replicate k .no) with
  | fail => rw [e] at f; exact f
  | bk ρ' => rw [e] at f; exact f.elim
  | ct ρ' => rw [e] at f; exact f.elim
  | nx ρ' =>
    rw [e] at f
    intro σ' H' Z' w' z n b' s' pn
    obtain ⟨w2, hc, s2⟩ := fin s' pn
    exact f .non H' Z' [] w2 z n (b'.cnt hc) (.own .non) s2
  | rt en ρ' =>
    rw [e] at f
    intro v σ' H' Z' fp w' z n b' ev s' pn
    obtain ⟨w2, hc, s2⟩ := fin s' pn
    exact f v H' Z' fp w2 z n (b'.cnt fun x => by have := hc x; simp only [cnt_app]; omega) ev s2
  | err C d ρ' =>
    rw [e] at f
    intro x vd σ' H' Z' w' z n b' hx o s' pn
    obtain ⟨w2, hc, s2⟩ := fin s' pn
    exact f x vd H' Z' w2 z n (b'.cnt hc) hx o s2
/-! ### calls that only read -/
/-- an argument as it is handed in, to be read -/
def Ent.arg : Ent → Ent
  | .own t => if t.isF = true then .own t else .vw t
  | .vw t => if t.isF = true then .own t else .vw t
  | .no => .no
  | .exc _ _ => .no
theorem EntV.re {ca ca' : Ks} (e : ca.cl = ca'.cl) {H Z : Hp} {v : V} {en : Ent} {fp : List Addr} (h : EntV ca H Z v en fp) : EntV ca' H Z v en fp := by
  cases h with
  | own o => exact .own (o.re e)
  | vw o => exact .vw (o.re e)
theorem EntVs.re {ca ca' : Ks} (e : ca.cl = ca'.cl) {H Z : Hp} : ∀ {vs : List V} {es : List Ent} {fp : List Addr}, EntVs ca H Z vs es fp → EntVs ca' H Z vs es fp
  | _, _, _, .nil => .nil
  | _, _, _, .cons h A => .cons (h.re e) (EntVs.re e A)
theorem Ow.toB {c : VC} {H Z : Hp} {v : V} {t : T} {fp : List Addr} (h : Ow c.ca H Z v t fp) : Ow c.base.ca H Z v t fp := Ow.re (ca := c.ca) (ca' := c.base.ca) rfl h
theorem Ow.ofB {c : VC} {H Z : Hp} {v : V} {t : T} {fp : List Addr} (h : Ow c.base.ca H Z v t fp) : Ow c.ca H Z v t fp := Ow.re (ca := c.base.ca) (ca' := c.ca) rfl h
theorem EntV.ofB {c : VC} {H Z : Hp} {v : V} {t : Ent} {fp : List Addr} (h : EntV c.base.ca H Z v t fp) : EntV c.ca H Z v t fp := EntV.re (ca := c.base.ca) (ca' := c.ca) rfl h
theorem EntVs.toB {c : VC} {H Z : Hp} {v : List V} {t : List Ent} {fp : List Addr} (h : EntVs c.ca H Z v t fp) : EntVs c.base.ca H Z v t fp := EntVs.re (ca := c.ca) (ca' := c.base.ca) rfl h
theorem EntV.arg {ca : Ks} {H M Z : Hp} {v : V} {e : Ent} {fp : List Addr} (x : Ext H M) (h : EntV ca H Z v e fp) : Slot ca H M Z (some v) e.arg [] := by
  cases h with
  | @own t f h =>
    unfold Ent.arg
    dsimp only
    split
    · rename_i q
      have e := h.nof q
      subst e
      exact .own h
    · exact .vw (h.mono (Ext.refl _) fun a _ o y => x a o y)
  | @vw t g h =>
    unfold Ent.arg
    dsimp only
    split
    · rename_i q
      have e := h.nof q
      subst e
      exact .own h
    · exact .vw (h.mono (Ext.refl _) fun a _ o y => x a o y)
theorem EntVs.args {ca : Ks} {H M Z : Hp} (x : Ext H M) : ∀ {vs : List V} {es : List Ent} {fp : List Addr}, EntVs ca H Z vs es fp → Slots ca H M Z (vs.map some) (es.map Ent.arg) []
  | _, _, _, .nil => .nil
  | _, _, _, .cons h A => .cons (f := []) (g := []) (h.arg x) (EntVs.args x A)
theorem out_nil {H : Hp} : @out Tb.none [] H = H := by
  funext a
  unfold out
  rw [if_neg (fun q => q.elim (fun q => nomatch q) fun q => by cases q)]
def mCallR (m : List Ent → R Ent) (ms : List Ent → R (List Ent)) : List Ent → R Ent := fun ρ => (ms ρ).bind fun es ρ1 => match m (es.map Ent.arg) with
  | .ok e _ => .ok e ρ1
  | .err C d _ => .err C d ρ1
  | .fail => .fail
section
variable {c : VC} {W : WX} {r : Bool} {ta : TA} {to : TE} {ms : List Ent → R (List Ent)} {m : List Ent → R Ent} {mo : List Ent → R Ent} {n : Nat}
theorem EntVs.length {ca : Ks} {H Z : Hp} : ∀ {vs : List V} {es : List Ent} {fp : List Addr}, EntVs ca H Z vs es fp → vs.length = es.length
  | _, _, _, .nil => rfl
  | _, _, _, .cons _ A => congrArg (· + 1) (EntVs.length A)
/-- the callee's promise from what is at hand -/
theorem callR_core {M P Z H H1 Z1 : Hp} {σ : St} {w w1 fp : List Addr} {ρ1 : List Ent} {vs : List V} {es : List Ent} {Q : VK} (hn : vs.length = n) (mp : Ext M P) (z1 : Ext Z Z1) (n1 : ZN P Z Z1) (b1 : Base P Z1 H1 (fp ++ w1)) (ev : EntVs c.ca H1 Z1 vs es fp) (s1 : Slots c.ca H1 M Z1 σ ρ1 w1) (ro : r = true → Ext H H1 ∧ w1 = w)
    (hf : FinE c W r M P Z H σ w Q (match m (es.map Ent.arg) with
      | .ok e _ => .ok e ρ1
      | .err C d _ => .err C d ρ1
      | .fail => .fail)) : spV0 c n m vs H1 Q (WE W σ) := by
  have b0 : BaseT [] H1 Z1 H1 [] := ⟨b1.z, (fun _ q => nomatch q), Ext.refl _, (fun _ q => nomatch q), List.nodup_nil, (fun _ q => nomatch q), TbOk.nil b1.tb.z⟩
  refine ⟨hn, Z1, [], es.map Ent.arg, by rw [out_nil]; exact b0, by rw [out_nil]; exact ev.toB.args (Ext.refl _), ?_⟩
  rw [out_nil]
  have bw : Base P Z1 H1 w1 := b1.drop
  have nn : ∀ {Z2 : Hp}, ZN H1 Z1 Z2 → ZN P Z Z2 := fun q => n1.trans (q.of b1.m)
  have kw : ∀ {Z2 H2 : Hp} {w2 : List Addr}, BaseT [] H1 Z2 H2 w2 → Ext Z1 Z2 → ZN H1 Z1 Z2 → Base P Z2 H2 (w2 ++ w1) := fun {Z2 H2 w2} b2 z2 n2 => by
    have dj : ∀ a ∈ w2, a ∉ w1 := fun a h q => by
      cases y : H1 a with
      | none => exact (bw.hw a q).nn y
      | some o => have := b2.mw a h; rw [y] at this; cases this
    refine ⟨b2.z, fun a h => ?_, fun a o h => b2.m a o (b1.m a o h), fun a h => ?_, List.nodup_append.mpr ⟨b2.nd, bw.nd, fun a h b q e => dj a h (e ▸ q)⟩, fun a h => ?_, bw.tb.call0 (fun _ _ e _ => e) b2⟩
    · rcases List.mem_append.mp h with h | h
      · exact b2.zw a h
      · cases y : Z2 a with
        | none => rfl
        | some o =>
          rcases n2 a (by rw [y]; exact fun z => nomatch z) with q | q
          · exact absurd (bw.zw a h) q
          · obtain ⟨u, e1, e2⟩ := bw.hw a h
            exact (q.op e1 e2).elim
    · rcases List.mem_append.mp h with h | h
      · cases y : P a with
        | none => rfl
        | some o => have := b2.mw a h; rw [b1.m a o y] at this; cases this
      · exact bw.mw a h
    · rcases List.mem_append.mp h with h | h
      · exact b2.hw a h
      · exact (bw.hw a h).keep (b2.m a)
  cases e : m (es.map Ent.arg) with
  | fail => rw [e] at hf; exact hf
  | err C d ρ2 =>
    rw [e] at hf
    intro x vd H2 Z2 w2 z2 n2 b2 hx o s2
    exact hf x vd H2 Z2 w1 (z1.trans z2) (nn n2) ((kw b2 z2 n2).sub (List.sublist_append_right _ _)) hx o.ofB (s1.mono z2 fun a _ o y => b2.m a o y)
  | ok en ρ2 =>
    rw [e] at hf
    intro v H2 Z2 f2 w2 z2 n2 b2 ev2 s2
    refine hf v H2 Z2 f2 w1 (z1.trans z2) (nn n2) ((kw b2 z2 n2).cnt fun x => by simp only [cnt_app]; omega) ev2.ofB (s1.mono z2 fun a _ o y => b2.m a o y) fun q => ⟨(ro q).1.trans b2.m, (ro q).2⟩
theorem SV.callR (hm : ∀ ρ, ρ.length ≠ n → m ρ = .fail) (h : SA c W r ta ms) : SV c W r (tCallS (spV0 c n m) (WE W) ta) (mCallR m ms) := by
  refine ⟨fun M P Z H σ ρ w Q mp b s hf => ?_⟩
  unfold tCallS
  refine h.go M P Z H σ ρ w _ mp b s ?_
  unfold mCallR at hf
  cases e : ms ρ with
  | fail => rw [e] at hf; exact hf
  | err C d ρ' => rw [e] at hf; exact hf
  | ok es ρ1 =>
    rw [e] at hf
    dsimp only [R.bind] at hf
    intro vs H1 Z1 fp w1 z1 n1 b1 ev s1 ro
    by_cases hl : es.length = n
    · exact callR_core (ev.length.trans hl) mp z1 n1 b1 ev s1 ro hf
    · rw [hm _ (by simpa using hl)] at hf
      exact hf.elim
/-- o.m(..), which only reads -/
def chkI (C m : Str) : T → Bool
  | .ins _ C' fs => decide (C' = C) && (getK fs m).isNone
  | _ => false
def mMethR (C mn : Str) (ra : Bool) (m : List Ent → R Ent) (mo : List Ent → R Ent) (ms : List Ent → R (List Ent)) : List Ent → R Ent := fun ρ => (mo ρ).bind fun e ρ0 => if (chkI C mn e.t && (ra || e.held)) = true then (ms ρ0).bind fun es ρ1 => match m ((e :: es).map Ent.arg) with
  | .ok e _ => .ok e ρ1
  | .err C d _ => .err C d ρ1
  | .fail => .fail else .fail
end
end Rm
/-! Rm, part VA: calls that change what is handed in. -/
namespace Rm
open PySem PySem.Spec L2
open PyProof.Rows hiding St
variable [Tb]
/-- an argument: what slot i owns, changed; the same, read; a value -/
inductive AK where
  | io (i : Nat) | vn (i : Nat) | lw (i : Nat) | val
def AK.ix : AK → Option Nat
  | .io i => some i
  | .vn i => some i
  | .lw i => some i
  | .val => none
/-- the arguments' values -/
inductive ArgVs (ca : Ks) (H Z : Hp) (σ : St) : List AK → List V → List Ent → List Addr → Prop
  | nil : ArgVs ca H Z σ [] [] [] []
  | io {i : Nat} {v : V} {ks : List AK} {vs : List V} {es : List Ent} {f : List Addr} : σ[i]? = some (some v) → ArgVs ca H Z σ ks vs es f → ArgVs ca H Z σ (.io i :: ks) (v :: vs) (.no :: es) f
  | vn {i : Nat} {v : V} {ks : List AK} {vs : List V} {es : List Ent} {f : List Addr} : σ[i]? = some (some v) → ArgVs ca H Z σ ks vs es f → ArgVs ca H Z σ (.vn i :: ks) (v :: vs) (.no :: es) f
  | lw {i : Nat} {v : V} {ks : List AK} {vs : List V} {es : List Ent} {f : List Addr} : σ[i]? = some (some v) → ArgVs ca H Z σ ks vs es f → ArgVs ca H Z σ (.lw i :: ks) (v :: vs) (.no :: es) f
  | val {v : V} {e : Ent} {f1 : List Addr} {ks : List AK} {vs : List V} {es : List Ent} {f : List Addr} : EntV ca H Z v e f1 → ArgVs ca H Z σ ks vs es f → ArgVs ca H Z σ (.val :: ks) (v :: vs) (e :: es) (f1 ++ f)
theorem ArgVs.length {ca : Ks} {H Z : Hp} {σ : St} {ks : List AK} {vs : List V} {es : List Ent} {f : List Addr} (h : ArgVs ca H Z σ ks vs es f) : vs.length = es.length := by
  induction h with
  | nil => rfl
  | io _ _ ih => simp [ih]
  | vn _ _ ih => simp [ih]
  | lw _ _ ih => simp [ih]
  | val _ _ ih => simp [ih]
def FinK (c : VC) (W : WX) (M P Z : Hp) (σ : St) (ks : List AK) (Q : List V → Hp → Prop) : R (List Ent) → Prop
  | .ok es ρ' => ∀ vs H' Z' fp w', Ext Z Z' → ZN P Z Z' → Base P Z' H' (fp ++ w') → ArgVs c.ca H' Z' σ ks vs es fp → Slots c.ca H' M Z' σ ρ' w' → Q vs H'
  | .err C d ρ' => ∀ x vd H' Z' w', Ext Z Z' → ZN P Z Z' → Base P Z' H' w' → Z' x = some (.xd [(c.ef C, vd)]) → Ow c.ca H' Z' vd d [] → Slots c.ca H' M Z' σ ρ' w' → W (.ref (c.ca.cl C)) (some x) σ H'
  | .fail => False
structure SK (c : VC) (W : WX) (ks : List AK) (t : TA) (m : List Ent → R (List Ent)) : Prop where
  go : ∀ (M P Z H : Hp) (σ : St) (ρ : List Ent) (w : List Addr) (Q : List V → Hp → Prop), Ext M P → Base P Z H w → Slots c.ca H M Z σ ρ w → FinK c W M P Z σ ks Q (m ρ) → t σ H Q
def mKNo (i : Nat) (ms : List Ent → R (List Ent)) : List Ent → R (List Ent) := fun ρ => match ρ[i]? with
  | some (.own _) => (ms ρ).bind fun es ρ1 => .ok (.no :: es) ρ1
  | _ => .fail
section
variable {c : VC} {W : WX} {r : Bool} {t : TE} {ta : TA} {m : List Ent → R Ent} {ms : List Ent → R (List Ent)} {ks : List AK}
theorem SK.nil : SK c W [] tNil mNil := ⟨fun M P Z H σ ρ w Q mp b s h => h [] H Z [] w (Ext.refl _) ZN.refl b .nil s⟩
theorem own_at {ca : Ks} {H M Z : Hp} {σ : St} {ρ : List Ent} {w : List Addr} {i : Nat} {u : T} (s : Slots ca H M Z σ ρ w) (h : ρ[i]? = some (.own u)) : ∃ v, σ[i]? = some (some v) := by
  obtain ⟨x, l, f, r, e1, e2, sl, kk⟩ := s.split h
  cases sl with
  | own o => exact ⟨_, e1⟩
theorem SK.io (i : Nat) (h2 : SK c W ks ta ms) : SK c W (.io i :: ks) (tCons (tV i) ta) (mKNo i ms) := by
  refine ⟨fun M P Z H σ ρ w Q mp b s hf => ?_⟩
  unfold mKNo at hf
  split at hf
  rotate_left
  · exact hf.elim
  rename_i u eu
  obtain ⟨v, ev⟩ := own_at s eu
  unfold tCons tV
  rw [ev]
  refine h2.go M P Z H σ ρ w _ mp b s ?_
  cases e2 : ms ρ with
  | fail => rw [e2] at hf; exact hf
  | err C d ρ2 => rw [e2] at hf; exact hf
  | ok es ρ2 =>
    rw [e2] at hf
    exact fun vs H' Z' fp w' z n b' a s' => hf (v :: vs) H' Z' fp w' z n b' (.io ev a) s'
theorem SK.vn (i : Nat) (h2 : SK c W ks ta ms) : SK c W (.vn i :: ks) (tCons (tV i) ta) (mKNo i ms) := by
  refine ⟨fun M P Z H σ ρ w Q mp b s hf => ?_⟩
  unfold mKNo at hf
  split at hf
  rotate_left
  · exact hf.elim
  rename_i u eu
  obtain ⟨v, ev⟩ := own_at s eu
  unfold tCons tV
  rw [ev]
  refine h2.go M P Z H σ ρ w _ mp b s ?_
  cases e2 : ms ρ with
  | fail => rw [e2] at hf; exact hf
  | err C d ρ2 => rw [e2] at hf; exact hf
  | ok es ρ2 =>
    rw [e2] at hf
    exact fun vs H' Z' fp w' z n b' a s' => hf (v :: vs) H' Z' fp w' z n b' (.vn ev a) s'
def mKLw (i : Nat) (ms : List Ent → R (List Ent)) : List Ent → R (List Ent) := fun ρ => match ρ[i]? with
  | some (.vw _) => (ms ρ).bind fun es ρ1 => .ok (.no :: es) ρ1
  | _ => .fail
theorem vw_at {ca : Ks} {H M Z : Hp} {σ : St} {ρ : List Ent} {w : List Addr} {i : Nat} {u : T} (s : Slots ca H M Z σ ρ w) (h : ρ[i]? = some (.vw u)) : ∃ v, σ[i]? = some (some v) := by
  obtain ⟨x, l, f, r, e1, e2, sl, kk⟩ := s.split h
  cases sl with
  | vw o => exact ⟨_, e1⟩
theorem SK.lw (i : Nat) (h2 : SK c W ks ta ms) : SK c W (.lw i :: ks) (tCons (tV i) ta) (mKLw i ms) := by
  refine ⟨fun M P Z H σ ρ w Q mp b s hf => ?_⟩
  unfold mKLw at hf
  split at hf
  rotate_left
  · exact hf.elim
  rename_i u eu
  obtain ⟨v, ev⟩ := vw_at s eu
  unfold tCons tV
  rw [ev]
  refine h2.go M P Z H σ ρ w _ mp b s ?_
  cases e2 : ms ρ with
  | fail => rw [e2] at hf; exact hf
  | err C d ρ2 => rw [e2] at hf; exact hf
  | ok es ρ2 =>
    rw [e2] at hf
    exact fun vs H' Z' fp w' z n b' a s' => hf (v :: vs) H' Z' fp w' z n b' (.lw ev a) s'
theorem SK.val (h1 : SV c W r t m) (h2 : SK c W ks ta ms) : SK c W (.val :: ks) (tCons t ta) (mCons false m ms) := by
  refine ⟨fun M P Z H σ ρ w Q mp b s h => ?_⟩
  unfold tCons
  refine h1.go M P Z H σ ρ w _ mp b s ?_
  unfold mCons at h
  cases e1 : m ρ with
  | fail => rw [e1] at h; exact h
  | err C d ρ1 => rw [e1] at h; exact h
  | ok e ρ1 =>
    rw [e1] at h
    dsimp only [R.bind] at h
    split at h
    rotate_left
    · exact h.elim
    rename_i hh
    rw [Bool.false_or] at hh
    intro v H1 Z1 fp w1 z1 n1 b1 ev s1 ro1
    refine h2.go M (Rm.out w1 H1) Z1 H1 σ ρ1 w1 _ (mp.trans b1.le) b1.out s1 ?_
    cases e2 : ms ρ1 with
    | fail => rw [e2] at h; exact h
    | err C d ρ2 =>
      rw [e2] at h
      intro x vd H2 Z2 w2 z2 n2 b2 hx2 ov s2
      exact h x vd H2 Z2 w2 (z1.trans z2) (n1.trans (n2.of b1.le)) (b2.less b1.le) hx2 ov s2
    | ok es ρ2 =>
      rw [e2] at h
      intro vs H2 Z2 fp2 w2 z2 n2 b2 evs s2
      have kf : ∀ a ∈ fp, ∀ o, H1 a = some o → H2 a = some o := fun a q o y => b2.m a o (b1.keep a q o y)
      refine h (v :: vs) H2 Z2 (fp ++ fp2) w2 (z1.trans z2) (n1.trans (n2.of b1.le)) (Base.join b1 b2 n2) (.val (ev.mono z2 kf fun ⟨t, q, y⟩ => ?_) evs) s2
      rw [q] at hh
      simp only [Ent.held] at hh
      rw [y] at hh; cases hh
/-- what is handed in, what stays -/
def prep : List AK → List Ent → List Ent → Option (List Ent × List Ent)
  | [], [], ρ => some ([], ρ)
  | .io i :: ks, _ :: es, ρ => (match ρ[i]? with
    | some (.own t) => (prep ks es (ρ.set i .no)).map fun p => (.own t :: p.1, p.2)
    | _ => none)
  | .vn i :: ks, _ :: es, ρ => (match ρ[i]? with
    | some (.own t) => (prep ks es (ρ.set i .no)).map fun p => (.vw t :: p.1, p.2)
    | _ => none)
  | .lw i :: ks, _ :: es, ρ => (match ρ[i]? with
    | some (.vw t) => (prep ks es ρ).map fun p => (.vw t :: p.1, p.2)
    | _ => none)
  | .val :: ks, e :: es, ρ => (match e with
    | .own t => (prep ks es ρ).map fun p => (.own t :: p.1, p.2)
    | .vw t => if t.isF = true then (prep ks es ρ).map fun p => (.own t :: p.1, p.2) else none
    | .no => none
    | .exc _ _ => none)
  | _, _, _ => none
/-- what comes back -/
def back : List AK → List Ent → List Ent → List Ent → List Ent
  | .io i :: ks, _ :: as, e :: fin, ρ => back ks as fin (match e with
    | .own t => ρ.set i (.own t)
    | _ => ρ)
  | .vn i :: ks, a :: as, _ :: fin, ρ => back ks as fin (match a with
    | .vw t => ρ.set i (.own t)
    | _ => ρ)
  | .lw _ :: ks, _ :: as, _ :: fin, ρ => back ks as fin ρ
  | .val :: ks, _ :: as, _ :: fin, ρ => back ks as fin ρ
  | _, _, _, ρ => ρ
/-- the frozen, read things apart -/
inductive Held (ca : Ks) (H Z : Hp) : List AK → List V → List Ent → List Addr → Prop
  | nil : Held ca H Z [] [] [] []
  | vn {i : Nat} {v : V} {t : T} {g : List Addr} {ks : List AK} {vs : List V} {as : List Ent} {f : List Addr} : Ow ca H Z v t g → Held ca H Z ks vs as f → Held ca H Z (.vn i :: ks) (v :: vs) (.vw t :: as) (g ++ f)
  | io {i : Nat} {v : V} {e : Ent} {ks : List AK} {vs : List V} {as : List Ent} {f : List Addr} : Held ca H Z ks vs as f → Held ca H Z (.io i :: ks) (v :: vs) (e :: as) f
  | val {v : V} {e : Ent} {ks : List AK} {vs : List V} {as : List Ent} {f : List Addr} : Held ca H Z ks vs as f → Held ca H Z (.val :: ks) (v :: vs) (e :: as) f
  | lw {i : Nat} {v : V} {e : Ent} {ks : List AK} {vs : List V} {as : List Ent} {f : List Addr} : Held ca H Z ks vs as f → Held ca H Z (.lw i :: ks) (v :: vs) (e :: as) f
theorem Held.mono {ca : Ks} {H H' Z Z' : Hp} (z : Ext Z Z') : ∀ {ks : List AK} {vs : List V} {as : List Ent} {f : List Addr}, (∀ a ∈ f, ∀ o, H a = some o → H' a = some o) → Held ca H Z ks vs as f → Held ca H' Z' ks vs as f
  | _, _, _, _, _, .nil => .nil
  | _, _, _, _, h, .vn o A => .vn (o.mono z fun a q => h a (List.mem_append_left _ q)) (Held.mono z (fun a q => h a (List.mem_append_right _ q)) A)
  | _, _, _, _, h, .io A => .io (Held.mono z h A)
  | _, _, _, _, h, .val A => .val (Held.mono z h A)
  | _, _, _, _, h, .lw A => .lw (Held.mono z h A)
/-- taken out -/
theorem prep_ok {ca : Ks} {M Z H : Hp} {σ : St} : ∀ {ks : List AK} {vs : List V} {es : List Ent} {fp : List Addr} {ρ : List Ent} {w : List Addr} {as ρr : List Ent}, ArgVs ca H Z σ ks vs es fp → Slots ca H M Z σ ρ w → prep ks es ρ = some (as, ρr) →
    ∃ wc wh wr, (∀ x, cnt x wc + (cnt x wh + cnt x wr) ≤ cnt x fp + cnt x w) ∧ Slots ca H M Z σ ρr wr ∧ Held ca H Z ks vs as wh ∧ ∀ {ca' : Ks} {Mc : Hp}, ca.cl = ca'.cl → (∀ a ∈ wh, ∀ o, H a = some o → Mc a = some o) → Ext M Mc → Slots ca' H Mc Z (vs.map some) as wc
  | [], _, _, _, ρ, w, _, _, .nil, s, h => by
    cases h
    exact ⟨[], [], w, fun x => by simp [cnt], s, .nil, fun _ _ _ => .nil⟩
  | .io i :: ks, _, _, _, ρ, w, as, ρr, .io (v := v) ev A, s, h => by
    unfold prep at h
    split at h
    rotate_left
    · cases h
    rename_i t et
    cases ep : prep ks _ (ρ.set i .no) with
    | none => rw [ep] at h; cases h
    | some p =>
      rw [ep] at h
      cases h
      obtain ⟨x, l, f, r, e1, e2, sl, kk⟩ := s.split et
      rw [ev] at e1
      cases e1
      cases sl with
      | own o =>
        have s2 := kk (x' := some v) (f' := []) (fun _ _ _ q => q) (Ext.refl _) .no
        rw [set_same ev] at s2
        obtain ⟨wc, wh, wr, hc, sr, hh, kc⟩ := prep_ok A s2 ep
        refine ⟨f ++ wc, wh, wr, fun y => ?_, sr, .io hh, fun ec q x => .cons (.own (o.re ec)) (kc ec q x)⟩
        have := hc y
        rw [e2]
        simp only [cnt_app, cnt_nil] at this ⊢
        omega
  | .vn i :: ks, _, _, _, ρ, w, as, ρr, .vn (v := v) ev A, s, h => by
    unfold prep at h
    split at h
    rotate_left
    · cases h
    rename_i t et
    cases ep : prep ks _ (ρ.set i .no) with
    | none => rw [ep] at h; cases h
    | some p =>
      rw [ep] at h
      cases h
      obtain ⟨x, l, f, r, e1, e2, sl, kk⟩ := s.split et
      rw [ev] at e1
      cases e1
      cases sl with
      | own o =>
        have s2 := kk (x' := some v) (f' := []) (fun _ _ _ q => q) (Ext.refl _) .no
        rw [set_same ev] at s2
        obtain ⟨wc, wh, wr, hc, sr, hh, kc⟩ := prep_ok A s2 ep
        refine ⟨wc, f ++ wh, wr, fun y => ?_, sr, .vn o hh, fun ec q x => ?_⟩
        · have := hc y
          rw [e2]
          simp only [cnt_app, cnt_nil] at this ⊢
          omega
        · exact .cons (f := []) (.vw ((o.re ec).mono (Ext.refl _) fun a y => q a (List.mem_append_left _ y))) (kc ec (fun a y => q a (List.mem_append_right _ y)) x)
  | .lw i :: ks, _, _, _, ρ, w, as, ρr, .lw (v := v) (es := es) ev A, s, h => by
    unfold prep at h
    split at h
    rotate_left
    · cases h
    rename_i t et
    cases ep : prep ks es ρ with
    | none => rw [ep] at h; cases h
    | some p =>
      rw [ep] at h
      cases h
      obtain ⟨x, l, f, r, e1, e2, sl, _⟩ := s.split et
      rw [ev] at e1
      cases e1
      cases sl with
      | vw o =>
        obtain ⟨wc, wh, wr, hc, sr, hh, kc⟩ := prep_ok A s ep
        exact ⟨wc, wh, wr, hc, sr, .lw hh, fun ec q x => .cons (f := []) (.vw ((o.re ec).mono (Ext.refl _) fun a _ o y => x a o y)) (kc ec q x)⟩
  | .val :: ks, _, _, _, ρ, w, as, ρr, .val (v := v) (e := e) (f1 := f1) (es := es) ev A, s, h => by
    have key : ∃ t, (∃ f2, Ow ca H Z v t f2 ∧ ∀ x, cnt x f2 ≤ cnt x f1) ∧ (prep ks es ρ).map (fun p => (Ent.own t :: p.1, p.2)) = some (as, ρr) := by
      unfold prep at h
      cases ev with
      | own o => exact ⟨_, ⟨_, o, fun _ => Nat.le_refl _⟩, h⟩
      | @vw t g o =>
        dsimp only at h
        split at h
        · rename_i q
          obtain rfl := o.nof q
          exact ⟨_, ⟨_, o, fun _ => Nat.le_refl _⟩, h⟩
        · cases h
    obtain ⟨t, ⟨f2, o, h2⟩, h⟩ := key
    cases ep : prep ks es ρ with
    | none => rw [ep] at h; cases h
    | some p =>
      rw [ep] at h
      cases h
      obtain ⟨wc, wh, wr, hc, sr, hh, kc⟩ := prep_ok A s ep
      refine ⟨f2 ++ wc, wh, wr, fun y => ?_, sr, .val hh, fun ec q x => .cons (.own (o.re ec)) (kc ec q x)⟩
      have := hc y
      have := h2 y
      simp only [cnt_app] at *
      omega
/-- put back -/
theorem back_ok {ca ca' : Ks} (ec : ca'.cl = ca.cl) {M Z H Mc : Hp} {σ : St} : ∀ {ks : List AK} {vs : List V} {as : List Ent} {fin : List Ent} {ρ : List Ent} {wf wh w : List Addr}, (∀ j : Nat, ∀ i, (ks[j]?).bind AK.ix = some i → σ[i]? = (vs[j]?).map some) → Held ca H Z ks vs as wh → Slots ca' H Mc Z (vs.map some) fin wf → Slots ca H M Z σ ρ w →
    ∃ w', (∀ x, cnt x w' ≤ cnt x wf + (cnt x wh + cnt x w)) ∧ Slots ca H M Z σ (back ks as fin ρ) w'
  | [], _, _, _, ρ, wf, wh, w, _, hh, _, s => ⟨w, fun x => by omega, by cases hh; exact s⟩
  | .io i :: ks, v :: vs, a :: as, e :: fin, ρ, _, wh, w, hv, .io hh, .cons (f := f) (g := g) sl sf, s => by
    have hv' : ∀ j : Nat, ∀ i, (ks[j]?).bind AK.ix = some i → σ[i]? = (vs[j]?).map some := fun j i q => by simpa using hv (j + 1) i (by simpa using q)
    have e0 : σ[i]? = some (some v) := by simpa using hv 0 i rfl
    unfold back
    cases sl with
    | @own _ t _ o =>
      dsimp only
      cases er : ρ[i]? with
      | none =>
        have := s.non0 er
        rw [e0] at this; cases this
      | some e' =>
        obtain ⟨x, l, f', r, e1, e2, sl', kk⟩ := s.split er
        have s2 := kk (x' := some v) (fun _ _ _ q => q) (Ext.refl _) (.own (o.re ec))
        rw [set_same e0] at s2
        obtain ⟨w', hc, sb⟩ := back_ok ec hv' hh sf s2
        refine ⟨w', fun y => ?_, sb⟩
        have := hc y
        rw [e2]
        simp only [cnt_app] at this ⊢
        omega
    | exc _ _ _ =>
      obtain ⟨w', hc, sb⟩ := back_ok ec hv' hh sf s
      exact ⟨w', fun y => by have := hc y; simp only [cnt_app] at this ⊢; omega, sb⟩
    | no =>
      obtain ⟨w', hc, sb⟩ := back_ok ec hv' hh sf s
      exact ⟨w', fun y => by have := hc y; simp only [cnt_app] at this ⊢; omega, sb⟩
    | vw o =>
      obtain ⟨w', hc, sb⟩ := back_ok ec hv' hh sf s
      exact ⟨w', fun y => by have := hc y; simp only [cnt_app] at this ⊢; omega, sb⟩
  | .vn i :: ks, v :: vs, .vw t :: as, e :: fin, ρ, _, _, w, hv, .vn (g := g0) (f := f0) o hh, .cons (f := f) (g := g) sl sf, s => by
    have hv' : ∀ j : Nat, ∀ i, (ks[j]?).bind AK.ix = some i → σ[i]? = (vs[j]?).map some := fun j i q => by simpa using hv (j + 1) i (by simpa using q)
    have e0 : σ[i]? = some (some v) := by simpa using hv 0 i rfl
    unfold back
    dsimp only
    cases er : ρ[i]? with
    | none =>
      have := s.non0 er
      rw [e0] at this; cases this
    | some e' =>
      obtain ⟨x, l, f', r, e1, e2, sl', kk⟩ := s.split er
      have s2 := kk (x' := some v) (fun _ _ _ q => q) (Ext.refl _) (.own o)
      rw [set_same e0] at s2
      obtain ⟨w', hc, sb⟩ := back_ok ec hv' hh sf s2
      refine ⟨w', fun y => ?_, sb⟩
      have := hc y
      rw [e2]
      simp only [cnt_app] at this ⊢
      omega
  | .val :: ks, v :: vs, a :: as, e :: fin, ρ, _, wh, w, hv, .val hh, .cons (f := f) (g := g) sl sf, s => by
    have hv' : ∀ j : Nat, ∀ i, (ks[j]?).bind AK.ix = some i → σ[i]? = (vs[j]?).map some := fun j i q => by simpa using hv (j + 1) i (by simpa using q)
    unfold back
    obtain ⟨w', hc, sb⟩ := back_ok ec hv' hh sf s
    exact ⟨w', fun y => by have := hc y; simp only [cnt_app] at this ⊢; omega, sb⟩
  | .lw i :: ks, v :: vs, a :: as, e :: fin, ρ, _, wh, w, hv, .lw hh, .cons (f := f) (g := g) sl sf, s => by
    have hv' : ∀ j : Nat, ∀ i, (ks[j]?).bind AK.ix = some i → σ[i]? = (vs[j]?).map some := fun j i q => by simpa using hv (j + 1) i (by simpa using q)
    unfold back
    obtain ⟨w', hc, sb⟩ := back_ok ec hv' hh sf s
    exact ⟨w', fun y => by have := hc y; simp only [cnt_app] at this ⊢; omega, sb⟩
  | .io i :: ks, v :: vs, a :: as, [], _, _, _, _, _, _, s, _ => nomatch s
  | .lw i :: ks, v :: vs, a :: as, [], _, _, _, _, _, _, s, _ => nomatch s
  | .vn i :: ks, v :: vs, a :: as, [], _, _, _, _, _, _, s, _ => nomatch s
  | .val :: ks, v :: vs, a :: as, [], _, _, _, _, _, _, s, _ => nomatch s
theorem ArgVs.at {ca : Ks} {H Z : Hp} {σ : St} : ∀ {ks : List AK} {vs : List V} {es : List Ent} {f : List Addr}, ArgVs ca H Z σ ks vs es f → ∀ j : Nat, ∀ i, (ks[j]?).bind AK.ix = some i → σ[i]? = (vs[j]?).map some
  | _, _, _, _, .nil, j, i, h => by simp at h
  | _, _, _, _, .io ev A, 0, i, h => by cases h; simpa using ev
  | _, _, _, _, .vn ev A, 0, i, h => by cases h; simpa using ev
  | _, _, _, _, .lw ev A, 0, i, h => by cases h; simpa using ev
  | _, _, _, _, .val ev A, 0, i, h => by cases h
  | _, _, _, _, .io ev A, j + 1, i, h => by simpa using ArgVs.at A j i (by simpa using h)
  | _, _, _, _, .vn ev A, j + 1, i, h => by simpa using ArgVs.at A j i (by simpa using h)
  | _, _, _, _, .lw ev A, j + 1, i, h => by simpa using ArgVs.at A j i (by simpa using h)
  | _, _, _, _, .val ev A, j + 1, i, h => by simpa using ArgVs.at A j i (by simpa using h)
/-- a call by what is handed in -/
def runC (ks : List AK) (m : List Ent → R Ent) (es ρ1 : List Ent) : R Ent := match prep ks es ρ1 with
  | some (as, ρr) => (match m as with
    | .ok e fin => .ok e (back ks as fin ρr)
    | .err C d fin => .err C d (back ks as fin ρr)
    | .fail => .fail)
  | none => .fail
/-- the result is kept: it is one's own or frozen -/
def Ent.safe : R Ent → R Ent
  | .ok e ρ => (match e with
    | .own t => .ok (.own t) ρ
    | .vw t => if t.isF = true then .ok (.own t) ρ else .fail
    | _ => .fail)
  | r => r
theorem callW_core {n : Nat} {m : List Ent → R Ent} {M P Z H1 Z1 : Hp} {σ : St} {w1 fp : List Addr} {ρ1 : List Ent} {ks : List AK} {vs : List V} {es : List Ent} {Q : VK} {H : Hp} {w : List Addr} (hm : ∀ ρ, ρ.length ≠ n → m ρ = .fail) (mp : Ext M P) (z1 : Ext Z Z1) (n1 : ZN P Z Z1) (b1 : Base P Z1 H1 (fp ++ w1)) (ev : ArgVs c.ca H1 Z1 σ ks vs es fp) (s1 : Slots c.ca H1 M Z1 σ ρ1 w1)
    (hf : FinE c W false M P Z H σ w Q (Ent.safe (runC ks m es ρ1))) : spV0 c n m vs H1 Q (WE W σ) := by
  unfold runC at hf
  cases ep : prep ks es ρ1 with
  | none => rw [ep] at hf; exact hf.elim
  | some pr =>
    obtain ⟨as, ρr⟩ := pr
    rw [ep] at hf
    dsimp only at hf
    obtain ⟨wc, wh, wr, hc, sr, hh, kc⟩ := prep_ok ev s1 ep
    have bb : Base P Z1 H1 (wc ++ (wh ++ wr)) := b1.cnt fun x => by have := hc x; simp only [cnt_app]; omega
    have keepH : ∀ a ∈ wh ++ wr, ∀ o, H1 a = some o → out0 wc H1 a = some o := fun a q o y => out0_of (fun z => (List.nodup_append.mp bb.nd).2.2 a z a q rfl) y
    have bc : BaseT [] (out0 wc H1) Z1 H1 wc := ⟨bb.z, fun a q => bb.zw a (List.mem_append_left _ q), fun a o q => (out0_some q).2, fun a q => out0_in q, (List.nodup_append.mp bb.nd).1, fun a q => bb.hw a (List.mem_append_left _ q), TbOk.nil bb.tb.z⟩
    have tcw : ∀ a o, H1 a = some o → isTC o → out0 wc H1 a = some o := fun a o y tc => out0_of (fun z => by
      obtain ⟨u, e1, e2⟩ := bb.hw a (List.mem_append_left _ z)
      rw [y] at e1; cases e1
      exact isTC_own tc e2) y
    have lc : Ext P (out0 wc H1) := fun a o q => out0_of (fun z => by rw [bb.mw a (List.mem_append_left _ z)] at q; cases q) (bb.m a o q)
    have sc := kc (ca' := c.base.ca) (Mc := out0 wc H1) rfl (fun a q o y => keepH a (List.mem_append_left _ q) o y) (mp.trans lc)
    have hn : vs.length = n := by
      have l2 := sc.length
      rw [List.length_map] at l2
      by_cases e : as.length = n
      · exact l2.trans e
      · rw [hm _ e] at hf
        exact hf.elim
    refine ⟨hn, Z1, wc, as, bc, sc, ?_⟩
    have nn : ∀ {Z2 : Hp}, ZN (out0 wc H1) Z1 Z2 → ZN P Z Z2 := fun q => n1.trans (q.of lc)
    -- behind the call
    have aft : ∀ {Z2 H2 : Hp} {f2 w2 : List Addr} {fin : List Ent}, Ext Z1 Z2 → ZN (out0 wc H1) Z1 Z2 → BaseT [] (out0 wc H1) Z2 H2 (f2 ++ w2) → Slots c.base.ca H2 (out0 wc H1) Z2 (vs.map some) fin w2 →
        ∃ w3, Base P Z2 H2 (f2 ++ w3) ∧ Slots c.ca H2 M Z2 σ (back ks as fin ρr) w3 := fun {Z2 H2 f2 w2 fin} z2 n2 b2 s2 => by
      have kp : ∀ a ∈ wh ++ wr, ∀ o, H1 a = some o → H2 a = some o := fun a q o y => b2.m a o (keepH a q o y)
      obtain ⟨w3, h3, s3⟩ := back_ok (ca' := c.base.ca) (ca := c.ca) rfl (Mc := out0 wc H1) ev.at (hh.mono z2 fun a q o y => kp a (List.mem_append_left _ q) o y) s2 (sr.mono z2 fun a q o y => kp a (List.mem_append_right _ q) o y)
      refine ⟨w3, ?_, s3⟩
      have all : Base P Z2 H2 ((f2 ++ w2) ++ (wh ++ wr)) := by
        have dj : ∀ a ∈ f2 ++ w2, a ∉ wh ++ wr := fun a h q => by
          cases y : H1 a with
          | none => exact (bb.hw a (List.mem_append_right _ q)).nn y
          | some o => have := b2.mw a h; rw [keepH a q o y] at this; cases this
        refine ⟨b2.z, fun a h => ?_, fun a o h => b2.m a o (lc a o h), fun a h => ?_, List.nodup_append.mpr ⟨b2.nd, (List.nodup_append.mp bb.nd).2.1, fun a h b q e => dj a h (e ▸ q)⟩, fun a h => ?_, bb.tb.call0 tcw b2⟩
        · rcases List.mem_append.mp h with h | h
          · exact b2.zw a h
          · cases y : Z2 a with
            | none => rfl
            | some o =>
              rcases n2 a (by rw [y]; exact fun z => nomatch z) with q | q
              · exact absurd (bb.zw a (List.mem_append_right _ h)) q
              · obtain ⟨u, e1, e2⟩ := bb.hw a (List.mem_append_right _ h)
                exact (q.op (keepH a h u e1) e2).elim
        · rcases List.mem_append.mp h with h | h
          · cases y : P a with
            | none => rfl
            | some o => have := b2.mw a h; rw [lc a o y] at this; cases this
          · exact bb.mw a (List.mem_append_right _ h)
        · rcases List.mem_append.mp h with h | h
          · exact b2.hw a h
          · exact (bb.hw a (List.mem_append_right _ h)).keep (kp a h)
      exact all.cnt fun x => by have := h3 x; simp only [cnt_app]; omega
    cases em : m as with
    | fail => rw [em] at hf; exact hf
    | err C d fin =>
      rw [em] at hf
      intro x vd H2 Z2 w2 z2 n2 b2 hx o s2
      obtain ⟨w3, b3, s3⟩ := aft (f2 := []) z2 n2 b2 s2
      exact hf x vd H2 Z2 w3 (z1.trans z2) (nn n2) b3 hx o.ofB s3
    | ok e fin =>
      rw [em] at hf
      intro v H2 Z2 f2 w2 z2 n2 b2 ev2 s2
      obtain ⟨w3, b3, s3⟩ := aft z2 n2 b2 s2
      cases ev2 with
      | own o => exact hf v H2 Z2 f2 w3 (z1.trans z2) (nn n2) b3 (.own o.ofB) s3 fun q => nomatch q
      | @vw t g o =>
        dsimp only [Ent.safe] at hf
        split at hf
        · rename_i q
          obtain rfl := o.nof q
          exact hf v H2 Z2 [] w3 (z1.trans z2) (nn n2) b3 (.own o.ofB) s3 fun q => nomatch q
        · exact hf.elim
def mCallW (ks : List AK) (m : List Ent → R Ent) (ms : List Ent → R (List Ent)) : List Ent → R Ent := fun ρ => (ms ρ).bind fun es ρ1 => Ent.safe (runC ks m es ρ1)
theorem SV.callW {n : Nat} {m : List Ent → R Ent} (hm : ∀ ρ, ρ.length ≠ n → m ρ = .fail) (h : SK c W ks ta ms) : SV c W false (tCallS (spV0 c n m) (WE W) ta) (mCallW ks m ms) := by
  refine ⟨fun M P Z H σ ρ w Q mp b s hf => ?_⟩
  unfold tCallS
  refine h.go M P Z H σ ρ w _ mp b s ?_
  unfold mCallW at hf
  cases e : ms ρ with
  | fail => rw [e] at hf; exact hf
  | err C d ρ' => rw [e] at hf; exact hf
  | ok es ρ1 =>
    rw [e] at hf
    dsimp only [R.bind] at hf
    intro vs H1 Z1 fp w1 z1 n1 b1 ev s1
    exact callW_core hm mp z1 n1 b1 ev s1 hf
/-- x.m(..), x is changed -/
def mMethW (i : Nat) (C mn : Str) (ks : List AK) (m : List Ent → R Ent) (ms : List Ent → R (List Ent)) : List Ent → R Ent := fun ρ => match ρ[i]? with
  | some (.own u) => if chkI C mn u = true then (ms ρ).bind fun es ρ1 => Ent.safe (runC (.io i :: ks) m (.no :: es) ρ1) else .fail
  | _ => .fail
end
end Rm
/-! Rm, part VB: constructors, methods at places, errors, dicts. -/
namespace Rm
open PySem PySem.Spec L2
open PyProof.Rows hiding St
variable [Tb]
section
variable {c : VC} {W : WX} {r : Bool} {t to : TE} {ta : TA} {m : List Ent → R Ent} {ms : List Ent → R (List Ent)} {ks : List AK}
/-- two parts that stand apart from what a callee had -/
theorem Base.beside {P Z1 Z2 H1 H2 Mc : Hp} {wk w2 : List Addr} (bk : Base P Z1 H1 wk) (keep : ∀ a ∈ wk, ∀ o, H1 a = some o → Mc a = some o) (lc : Ext P Mc) (n2 : ZN Mc Z1 Z2) {T2 : List (Addr × Str)} (b2 : BaseT T2 Mc Z2 H2 w2) (tc : ∀ a o, H1 a = some o → isTC o → Mc a = some o) : Base P Z2 H2 (w2 ++ wk) := by
  have dj : ∀ a ∈ w2, a ∉ wk := fun a h q => by
    cases y : H1 a with
    | none => exact (bk.hw a q).nn y
    | some o => have := b2.mw a h; rw [keep a q o y] at this; cases this
  refine ⟨b2.z, fun a h => ?_, fun a o h => b2.m a o (lc a o h), fun a h => ?_, List.nodup_append.mpr ⟨b2.nd, bk.nd, fun a h b q e => dj a h (e ▸ q)⟩, fun a h => ?_, bk.tb.call0 tc b2⟩
  · rcases List.mem_append.mp h with h | h
    · exact b2.zw a h
    · cases y : Z2 a with
      | none => rfl
      | some o =>
        rcases n2 a (by rw [y]; exact fun z => nomatch z) with q | q
        · exact absurd (bk.zw a h) q
        · obtain ⟨u, e1, e2⟩ := bk.hw a h
          exact (q.op (keep a h u e1) e2).elim
  · rcases List.mem_append.mp h with h | h
    · cases y : P a with
      | none => rfl
      | some o => have := b2.mw a h; rw [lc a o y] at this; cases this
    · exact bk.mw a h
  · rcases List.mem_append.mp h with h | h
    · exact b2.hw a h
    · exact (bk.hw a h).keep fun o y => b2.m a o (keep a h o y)
/-- C(..) -/
def runI (C : Str) (ks : List AK) (m : List Ent → R Ent) (es ρ1 : List Ent) : R Ent := match prep ks es ρ1 with
  | some (as, ρr) => (match m (.own (.ins true C []) :: as) with
    | .ok (.own .non) (.own t :: fin) => .ok (.own t) (back ks as fin ρr)
    | .err C d (_ :: fin) => .err C d (back ks as fin ρr)
    | _ => .fail)
  | none => .fail
def mNew (C : Str) (ks : List AK) (m : List Ent → R Ent) (ms : List Ent → R (List Ent)) : List Ent → R Ent := fun ρ => (ms ρ).bind fun es ρ1 => runI C ks m es ρ1
theorem SV.new {n : Nat} {m : List Ent → R Ent} (C : Str) (hm : ∀ ρ, ρ.length ≠ n → m ρ = .fail) (h : SK c W ks ta ms) : SV c W false (tCS (c.ca.cl C) (spV0 c n m) W ta) (mNew C ks m ms) := by
  refine ⟨fun M P Z H σ ρ w Q mp b s hf => ?_⟩
  unfold tCS
  refine h.go M P Z H σ ρ w _ mp b s ?_
  unfold mNew at hf
  cases e : ms ρ with
  | fail => rw [e] at hf; exact hf
  | err C d ρ' => rw [e] at hf; exact hf
  | ok es ρ1 =>
    rw [e] at hf
    dsimp only [R.bind] at hf
    intro vs H0 Z1 fp w1 z1 n1 b0 ev0 s0 x dx hx hdx hne
    have x1 : Ext H0 (upd (upd H0 dx (.own x)) x (.ins (c.ca.cl C) dx [])) := (Ext.new hdx).trans (Ext.new (by rw [upd_ne (Ne.symm hne)]; exact hx))
    generalize eH : upd (upd H0 dx (.own x)) x (.ins (c.ca.cl C) dx []) = H1 at x1
    have hx1 : H1 x = some (.ins (c.ca.cl C) dx []) := by rw [← eH, upd_same]
    unfold runI at hf
    cases ep : prep ks es ρ1 with
    | none => rw [ep] at hf; exact hf.elim
    | some pr =>
    obtain ⟨as, ρr⟩ := pr
    rw [ep] at hf
    dsimp only at hf
    obtain ⟨wc, wh, wr, hc, sr, hh, kc⟩ := prep_ok ev0 s0 ep
    have bb0 : Base P Z1 H0 (wc ++ (wh ++ wr)) := b0.cnt fun x => by have := hc x; simp only [cnt_app]; omega
    have bb : Base P Z1 H1 (x :: (wc ++ (wh ++ wr))) := by
      have q := bb0.ext x1
      refine ⟨q.z, fun a h => ?_, q.m, fun a h => ?_, List.nodup_cons.mpr ⟨bb0.nin hx, q.nd⟩, fun a h => ?_, ⟨bb0.tb.m, bb0.tb.z, bb0.tb.t.ext x1⟩⟩
      · rcases List.mem_cons.mp h with rfl | h
        · exact b0.zn hx
        · exact q.zw a h
      · rcases List.mem_cons.mp h with rfl | h
        · exact b0.mn hx
        · exact q.mw a h
      · rcases List.mem_cons.mp h with rfl | h
        · exact ⟨_, hx1, rfl⟩
        · exact q.hw a h
    have keepH : ∀ a ∈ wh ++ wr, ∀ o, H1 a = some o → out0 (x :: wc) H1 a = some o := fun a q o y => out0_of (fun z => by
      have := List.nodup_append.mp (show ((x :: wc) ++ (wh ++ wr)).Nodup from bb.nd)
      exact this.2.2 a z a q rfl) y
    have bk : Base P Z1 H1 (wh ++ wr) := bb.cnt fun y => by rw [cnt_cons]; simp only [cnt_app]; omega
    have bc : BaseT [] (out0 (x :: wc) H1) Z1 H1 (x :: wc) := ⟨bb.z, fun a q => bb.zw a (by simp at q ⊢; rcases q with q | q <;> simp [q]), fun a o q => (out0_some q).2, fun a q => out0_in q, (List.nodup_append.mp (show ((x :: wc) ++ (wh ++ wr)).Nodup from bb.nd)).1, fun a q => bb.hw a (by simp at q ⊢; rcases q with q | q <;> simp [q]), TbOk.nil bb.tb.z⟩
    have tcw : ∀ a o, H1 a = some o → isTC o → out0 (x :: wc) H1 a = some o := fun a o y tc => out0_of (fun z => by
      obtain ⟨u, e1, e2⟩ := bb.hw a (by simp at z ⊢; rcases z with z | z <;> simp [z])
      rw [y] at e1; cases e1
      exact isTC_own tc e2) y
    have lc : Ext P (out0 (x :: wc) H1) := fun a o q => out0_of (fun z => by rw [bb.mw a (by simp at z ⊢; rcases z with z | z <;> simp [z])] at q; cases q) (bb.m a o q)
    have sc0 := kc (ca' := c.base.ca) (Mc := out0 (x :: wc) H1) rfl (fun a q o y => keepH a (List.mem_append_left _ q) o (x1 a o y)) (mp.trans lc)
    have sc1 := sc0.mono (H' := H1) (Ext.refl _) fun a _ o y => x1 a o y
    have sc : Slots c.base.ca H1 (out0 (x :: wc) H1) Z1 ((V.ref x :: vs).map some) (.own (.ins true C []) :: as) ([x] ++ wc) := .cons (.own (.insO (fs := []) hx1 rfl .nil List.nodup_nil)) sc1
    have hn : (V.ref x :: vs).length = n := by
      have l2 := sc.length
      rw [List.length_map] at l2
      by_cases e : (Ent.own (T.ins true C []) :: as).length = n
      · exact l2.trans e
      · rw [hm _ e] at hf
        exact hf.elim
    refine ⟨hn, Z1, x :: wc, .own (.ins true C []) :: as, bc, sc, ?_⟩
    have nn : ∀ {Z2 : Hp}, ZN (out0 (x :: wc) H1) Z1 Z2 → ZN P Z Z2 := fun q => n1.trans (q.of lc)
    have aft : ∀ {Z2 H2 : Hp} {f2 w2 : List Addr} {fin : List Ent}, Ext Z1 Z2 → ZN (out0 (x :: wc) H1) Z1 Z2 → BaseT [] (out0 (x :: wc) H1) Z2 H2 (f2 ++ w2) → Slots c.base.ca H2 (out0 (x :: wc) H1) Z2 (vs.map some) fin w2 →
        ∃ w3, Base P Z2 H2 (f2 ++ w3) ∧ Slots c.ca H2 M Z2 σ (back ks as fin ρr) w3 := fun {Z2 H2 f2 w2 fin} z2 n2 b2 s2 => by
      have kp : ∀ a ∈ wh ++ wr, ∀ o, H0 a = some o → H2 a = some o := fun a q o y => b2.m a o (keepH a q o (x1 a o y))
      obtain ⟨w3, h3, s3⟩ := back_ok (ca' := c.base.ca) (ca := c.ca) rfl (Mc := out0 (x :: wc) H1) ev0.at (hh.mono z2 fun a q o y => kp a (List.mem_append_left _ q) o y) s2 (sr.mono z2 fun a q o y => kp a (List.mem_append_right _ q) o y)
      exact ⟨w3, (bk.beside keepH lc n2 b2 tcw).cnt fun x => by have := h3 x; simp only [cnt_app]; omega, s3⟩
    cases em : m (.own (.ins true C []) :: as) with
    | fail => rw [em] at hf; exact hf
    | err C' d fin =>
      rw [em] at hf
      intro xx vd H2 Z2 w2 z2 n2 b2 hxx o s2
      cases s2 with
      | @cons _ _ e0 fin f g sl s2 =>
      obtain ⟨w3, b3, s3⟩ := aft (f2 := []) z2 n2 (b2.cnt fun x => by simp only [cnt_app, cnt_nil]; omega) s2
      exact hf xx vd H2 Z2 w3 (z1.trans z2) (nn n2) b3 hxx o.ofB s3
    | ok e fin =>
      rw [em] at hf
      intro v H2 Z2 f2 w2 z2 n2 b2 ev2 s2
      cases s2 with
      | @cons _ _ e0 fin f g sl s2 =>
      cases sl with
      | no => cases e <;> first | exact hf.elim | (rename_i tt; cases tt <;> exact hf.elim)
      | vw o => cases e <;> first | exact hf.elim | (rename_i tt; cases tt <;> exact hf.elim)
      | exc _ _ _ => cases e <;> first | exact hf.elim | (rename_i tt; cases tt <;> exact hf.elim)
      | own o =>
        cases ev2 with
        | vw _ => exact hf.elim
        | own o2 =>
          cases o2 with
          | non =>
            obtain ⟨w3, b3, s3⟩ := aft (f2 := f) z2 n2 (b2.cnt fun x => by simp only [cnt_app, cnt_nil]; omega) s2
            exact ⟨rfl, hf (.ref x) H2 Z2 f w3 (z1.trans z2) (nn n2) b3 (.own o.ofB) s3 fun q => nomatch q⟩
          | _ => exact hf.elim
/-! ### literals -/
theorem newp_nf {H H' : Hp} : NF (newp H H') := fun a o u e => by
  unfold newp at e
  split at e
  · split at e <;> cases e
    rename_i h
    cases h
  · cases e
theorem sv_lit {d : PyData} : SV c W true (tLit d) (mC (enc d)) := by
  refine ⟨fun M P Z H σ ρ w Q mp b s hf => ?_⟩
  intro v H' x dr
  have e1 : Ext (newp H H') (fun a => match Z a with
    | some o => some o
    | none => newp H H' a) := fun a o h => by
    have hn : Z a = none := by
      cases y : Z a with
      | none => rfl
      | some o' => have := b.z _ _ y; rw [(newp_some h).1] at this; cases this
    simp only [hn]; exact h
  have e2 : Ext Z (fun a => match Z a with
    | some o => some o
    | none => newp H H' a) := fun a o h => by simp only [h]
  have o := (Dr.ow (ca := c.ca) (H := H') newp_nf dr).mono (H' := H') e1 (fun a q => absurd q List.not_mem_nil)
  have bx := b.ext x
  refine hf v H' _ [] w e2 (fun a h => ?_) ⟨fun a o h => ?_, fun a h => ?_, bx.m, bx.mw, bx.nd, bx.hw, ⟨b.tb.m, fun a ps e => ?_, b.tb.t.ext x⟩⟩ (.own o) (s.mono e2 fun a _ o y => x a o y) fun _ => ⟨x, rfl⟩
  · cases y : Z a with
    | some o => exact Or.inl (fun z => nomatch z)
    | none =>
      simp only [y] at h
      refine Or.inr ?_
      cases q : newp H H' a with
      | none => exact absurd q h
      | some o => exact .of_none (b.mn (newp_some q).1)
  · cases y : Z a with
    | some o' => simp only [y] at h; cases h; exact bx.z a _ y
    | none => simp only [y] at h; exact (newp_some h).2
  · have y := b.zw a h
    simp only [y]
    cases q : newp H H' a with
    | none => rfl
    | some o => exact absurd (newp_some q).1 (b.hw a h).nn
  · cases y : Z a with
    | some o => simp only [y] at e; cases e; exact b.tb.z _ _ y
    | none => simp only [y] at e; exact newp_not _ _ e
end
/-! ### raise C(e) -/
def mRaise (C : Str) (me : List Ent → R Ent) : List Ent → O := fun ρ => (me ρ).then fun e ρ' => match e.fz with
  | some t => .err C t ρ'
  | none => .fail
section
variable {F : FC} {W : WX} {r : Bool} {te : TE} {me : List Ent → R Ent}
theorem SS.raise (C : Str) (h : SV F.c W r te me) : SS F W (fun _ σ H => tErr (F.c.ca.cl C) (F.c.ef C) te σ H fun cls d H' => W cls d σ H') (mRaise C me) := by
  refine ⟨fun M P Z H σ ρ w D mp b s pn hf => ?_⟩
  unfold tErr
  refine h.go M P Z H σ ρ w _ mp b s ?_
  unfold mRaise at hf
  cases e : me ρ with
  | fail => rw [e] at hf; exact hf
  | err C d ρ' => rw [e] at hf; exact fin_err pn hf
  | ok en ρ' =>
    rw [e] at hf
    dsimp only [R.then] at hf
    intro v H1 Z1 fp w1 z1 n1 b1 ev s1 ro
    split at hf
    · rename_i tr q
      refine kErr_of fun x hx => ?_
      have o := ev.fz (Z' := fzZ fp H1 Z1) (fzZ_ext b1) (fun a y => fzZ_in a y) q
      have b2 := b1.fz
      have z2 := fzZ_ext b1
      have z3 := z2.trans (Ext.new (o := .xd [(F.c.ef C, v)]) (b2.zn hx))
      exact hf x v σ _ (upd (fzZ fp H1 Z1) x (.xd [(F.c.ef C, v)])) w1 (z1.trans z3) (n1.trans ((fzZ_zn b1).trans (ZN.new b2 hx))) (b2.newZ hx) upd_same (o.any.mono (H := H1) (Ext.new (b2.zn hx)) fun a q => absurd q List.not_mem_nil) (s1.mono z3 fun a _ o y => Ext.new hx a o y) pn
    · exact hf.elim
end
end Rm
/-! Rm, part VC: loops, comprehensions. -/
namespace Rm
open PySem PySem.Spec L2
open PyProof.Rows hiding St
variable [Tb]
/-- what an iterator gives at a turn -/
def YT (ca : Ks) (Z : Hp) (ts : List T) : Nat → Hp → V → Hp → Prop := fun i H x H' => ∃ t, ts[i]? = some t ∧ ((H' = H ∧ Ow ca H Z x t []) ∨ (∃ p xs us, x = .ref p ∧ H p = none ∧ H' = upd H p (.tup xs) ∧ t = .tup us ∧ OwA ca H Z xs us []) ∨ ∃ q xs us, x = .ref q ∧ H q = some (.tup xs) ∧ H' = H ∧ t = .tup us ∧ OwA ca H Z xs us [])
/-- an iterator that gives ts -/
def IterOk (ca : Ks) (J : It) (P Z : Hp) (ts : List T) : Prop := Walk J ts.length (fun H => Ext Z H ∧ Ext P H) (YT ca Z ts)
structure SI (c : VC) (W : WX) (wi : TI) (m : List Ent → R (List T)) : Prop where
  go : ∀ (M P Z H : Hp) (σ : St) (ρ : List Ent) (w : List Addr) (Q : It → Hp → Prop), Ext M P → Base P Z H w → Slots c.ca H M Z σ ρ w → (match m ρ with
    | .ok ts ρ' => ∀ J H' Z' w', Ext Z Z' → ZN P Z Z' → Base P Z' H' w' → Slots c.ca H' M Z' σ ρ' w' → IterOk c.ca J P Z' ts → Q J H'
    | .err C d ρ' => ∀ x vd H' Z' w', Ext Z Z' → ZN P Z Z' → Base P Z' H' w' → Z' x = some (.xd [(c.ef C, vd)]) → Ow c.ca H' Z' vd d [] → Slots c.ca H' M Z' σ ρ' w' → W (.ref (c.ca.cl C)) (some x) σ H'
    | .fail => False) → wi σ H Q
/-- .. at one state -/
def SIp (c : VC) (W : WX) (M P Z H : Hp) (σ : St) (wi : TI) (r : R (List T)) : Prop := ∀ Q : It → Hp → Prop, (match r with
    | .ok ts ρ' => ∀ J H' Z' w', Ext Z Z' → ZN P Z Z' → Base P Z' H' w' → Slots c.ca H' M Z' σ ρ' w' → IterOk c.ca J P Z' ts → Q J H'
    | .err C d ρ' => ∀ x vd H' Z' w', Ext Z Z' → ZN P Z Z' → Base P Z' H' w' → Z' x = some (.xd [(c.ef C, vd)]) → Ow c.ca H' Z' vd d [] → Slots c.ca H' M Z' σ ρ' w' → W (.ref (c.ca.cl C)) (some x) σ H'
    | .fail => False) → wi σ H Q
/-- the items of a tree -/
def T.items : T → Option (List T)
  | .lst _ ts => some ts
  | .tup ts => some ts
  | .scr ts => some ts
  | .str z => some (z.cps.toList.map fun c => .str ⟨#[c]⟩)
  | _ => none
/-- as the walked thing is kept -/
def mItV (m : List Ent → R Ent) : List Ent → R (List T) := fun ρ => (m ρ).bind fun e ρ' => match e.fz with
  | some t => (match t.items with
    | some ts => .ok ts ρ'
    | none => .fail)
  | none => .fail
section
variable {ca : Ks} {P Z Z' H : Hp} {v : V} {t : T} {ts : List T}
theorem YT.mono (z : Ext Z Z') {i : Nat} {H : Hp} {x : V} {H' : Hp} (h : YT ca Z ts i H x H') : YT ca Z' ts i H x H' := by
  obtain ⟨t, e, h⟩ := h
  refine ⟨t, e, ?_⟩
  rcases h with ⟨e1, o⟩ | ⟨p, xs, us, e1, e2, e3, e4, A⟩ | ⟨p, xs, us, e1, e2, e3, e4, A⟩
  · exact Or.inl ⟨e1, o.mono z fun _ q => absurd q List.not_mem_nil⟩
  · exact Or.inr (Or.inl ⟨p, xs, us, e1, e2, e3, e4, A.mono z fun _ q => absurd q List.not_mem_nil⟩)
  · exact Or.inr (Or.inr ⟨p, xs, us, e1, e2, e3, e4, A.mono z fun _ q => absurd q List.not_mem_nil⟩)
theorem IterOk.mono {J : It} (z : Ext Z Z') (h : IterOk ca J P Z ts) : IterOk ca J P Z' ts := Walk.mono h (fun H q => ⟨z.trans q.1, q.2⟩) fun i H x H' _ _ y => y.mono z
theorem OwA.get0 : ∀ {xs : List V} {ts : List T} {i : Nat} {x : V}, OwA ca H Z xs ts [] → xs[i]? = some x → ∃ t, ts[i]? = some t ∧ Ow ca H Z x t []
  | [], _, _, _, A, e => by simp at e
  | y :: xs, _, 0, _, A, e => by
    obtain ⟨t, r, rfl, h, A⟩ := A.inv0
    simp at e; subst e
    exact ⟨t, rfl, h⟩
  | y :: xs, _, i + 1, _, A, e => by
    obtain ⟨t, r, rfl, h, A⟩ := A.inv0
    simp at e
    obtain ⟨t', e', o⟩ := OwA.get0 A e
    exact ⟨t', by simpa using e', o⟩
theorem items_cases (o : Ow ca H Z v t []) (e : t.items = some ts) : (∃ a xs, v = .ref a ∧ rdo Z a = some (.lst xs) ∧ OwA ca H Z xs ts []) ∨ (∃ a xs, v = .ref a ∧ rdo Z a = some (.tup xs) ∧ OwA ca H Z xs ts []) ∨ ∃ z : Str, v = .str z ∧ ts = z.cps.toList.map fun c => .str ⟨#[c]⟩ := by
  generalize hg : ([] : List Addr) = g0 at o
  cases o with
  | non => cases e
  | bl k => cases e
  | int i => cases e
  | str z => cases e; exact Or.inr (Or.inr ⟨_, rfl, rfl⟩)
  | tup ez A => cases e; exact Or.inr (Or.inl ⟨_, _, rfl, rdo_of ez (fun _ _ y => nomatch y), A⟩)
  | lstF ez A => cases e; exact Or.inl ⟨_, _, rfl, rdo_of ez (fun _ _ y => nomatch y), A⟩
  | lstO ez A => cases hg
  | dctF e1 k A => cases e
  | dtpF e1 k A => cases e
  | dctO e1 k A nd => cases e
  | dtpO e1 k A nd => cases e
  | insF e1 k A => cases e
  | insO e1 k A nd => cases e
  | scr ez A => cases e; exact Or.inl ⟨_, _, rfl, ez, A⟩
theorem YAt.yt {xs : List V} (A : OwA ca H Z xs ts []) {i : Nat} {H1 : Hp} {x : V} {H2 : Hp} (y : YAt xs i H1 x H2) : YT ca Z ts i H1 x H2 := by
  obtain ⟨e1, ex⟩ := y
  obtain ⟨t, et, o⟩ := A.get0 ex
  exact ⟨t, et, Or.inl ⟨e1, o.any⟩⟩
theorem iter_any {K : PySem.W.Frag} {H1 : Hp} {Q : It → Hp → Prop} {w : List Addr} {σ : St} (b : Base P Z H1 w) (o : Ow ca H1 Z v t []) (e : t.items = some ts) (h : ∀ J, IterOk ca J P Z ts → Q J H1) : iAny K (fun _ H k => k v H) σ H1 Q := by
  unfold iAny
  rcases items_cases o e with ⟨a, xs, rfl, ez, A⟩ | ⟨a, xs, rfl, ez, A⟩ | ⟨z, rfl, rfl⟩
  · simp only [b.z.o ez]
    refine h _ ?_
    unfold IterOk
    rw [← A.length]
    exact walk_list.mono (fun H q => Or.inl (rdo_rd (q.1.o ez))) fun i H x H' _ _ y => YAt.yt A y
  · simp only [b.z.o ez]
    refine h _ ?_
    unfold IterOk
    rw [← A.length]
    exact walk_tup.mono (fun H q => Or.inl (rdo_rd (q.1.o ez))) fun i H x H' _ _ y => YAt.yt A y
  · refine h _ ?_
    have hl : (z.cps.toList.map fun c => T.str ⟨#[c]⟩).length = z.cps.size := by simp
    unfold IterOk
    rw [hl]
    refine walk_str.mono (fun _ _ => trivial) fun i H x H' _ _ y => ?_
    obtain ⟨e1, c, ec, rfl⟩ := y
    refine ⟨.str ⟨#[c]⟩, ?_, Or.inl ⟨e1, .str _⟩⟩
    rw [List.getElem?_map]
    have : z.cps.toList[i]? = some c := by simpa using ec
    rw [this]; rfl
end
section
variable {c : VC} {W : WX} {r : Bool} {te : TE} {ta : TA} {K : PySem.W.Frag} {me : List Ent → R Ent} {ms : List Ent → R (List Ent)}
theorem SI.any (h : SV c W r te me) : SI c W (iAny K te) (mItV me) := by
  refine ⟨fun M P Z H σ ρ w Q mp b s hf => ?_⟩
  unfold iAny
  refine h.go M P Z H σ ρ w _ mp b s ?_
  unfold mItV at hf
  cases e : me ρ with
  | fail => rw [e] at hf; exact hf
  | err C d ρ' => rw [e] at hf; exact hf
  | ok en ρ' =>
    rw [e] at hf
    dsimp only [R.bind] at hf
    intro v H1 Z1 fp w1 z1 n1 b1 ev s1 ro
    cases q : en.fz with
    | none => rw [q] at hf; exact hf.elim
    | some tr =>
      rw [q] at hf
      dsimp only at hf
      have o := ev.fz (Z' := fzZ fp H1 Z1) (fzZ_ext b1) (fun a y => fzZ_in a y) q
      have b2 := b1.fz
      cases qi : tr.items with
      | none => rw [qi] at hf; exact hf.elim
      | some ts =>
        rw [qi] at hf
        exact iter_any (K := K) (σ := σ) (ca := c.ca) (P := P) b2 o qi fun J hJ => hf J H1 _ w1 (z1.trans (fzZ_ext b1)) (n1.trans (fzZ_zn b1)) b2 (s1.mono (fzZ_ext b1) fun _ _ _ y => y) hJ
/-- range -/
def rangeT (lo : Int) (n : Nat) : List T := (List.range n).map fun i => .int (lo + (i : Nat))
def mRange1 (me : List Ent → R Ent) : List Ent → R (List T) := fun ρ => (me ρ).bind fun e ρ' => match e.t with
  | .int j => if okR j = true then .ok (rangeT 0 j.toNat) ρ' else .fail
  | _ => .fail
theorem range_ok {ca : Ks} {P Z : Hp} {lo : Int} {n : Nat} : IterOk ca (Itr lo n) P Z (rangeT lo n) := by
  have hl : (rangeT lo n).length = n := by simp [rangeT]
  unfold IterOk
  rw [hl]
  refine ⟨fun i _ hi _ => hi, fun _ _ => Nat.le_refl _, fun i H x H' hi _ y => ?_⟩
  obtain ⟨e1, rfl⟩ := y
  refine ⟨.int (lo + (i : Nat)), ?_, Or.inl ⟨e1, .int _⟩⟩
  simp [rangeT, hi]
theorem SI.range1 (h : SV c W r te me) : SI c W (iRng1 (tCons te tNil)) (mRange1 me) := by
  refine ⟨fun M P Z H σ ρ w Q mp b s hf => ?_⟩
  unfold iRng1 tCons tNil
  refine h.go M P Z H σ ρ w _ mp b s ?_
  unfold mRange1 at hf
  cases e : me ρ with
  | fail => rw [e] at hf; exact hf
  | err C d ρ' => rw [e] at hf; exact hf
  | ok en ρ' =>
    rw [e] at hf
    dsimp only [R.bind] at hf
    intro v H1 Z1 fp w1 z1 n1 b1 ev s1 ro
    obtain ⟨g, o⟩ := ev.ow
    generalize en.t = tr at hf o
    cases tr with
    | int j =>
      obtain rfl := ow_int o
      dsimp only at hf
      by_cases q : okR j = true
      · rw [if_pos q] at hf
        exact ⟨j, rfl, (okR_le q).1, (okR_le q).2, hf _ H1 Z1 w1 z1 n1 b1.drop s1 range_ok⟩
      · rw [if_neg q] at hf
        exact hf.elim
    | _ => exact hf.elim
/-! ### for -/
def forM (g : T → List Ent → Option (List Ent)) (mb : List Ent → O) : List T → List Ent → O
  | [], ρ => .nx ρ
  | t :: ts, ρ => match g t ρ with
    | none => .fail
    | some ρ1 => match mb ρ1 with
      | .nx ρ2 => forM g mb ts ρ2
      | .ct ρ2 => forM g mb ts ρ2
      | .bk ρ2 => .nx ρ2
      | o => o
def mFor (mi : List Ent → R (List T)) (g : T → List Ent → Option (List Ent)) (mb : List Ent → O) : List Ent → O := fun ρ => (mi ρ).then fun ts ρ1 => forM g mb ts ρ1
/-- a turn begins -/
theorem turn_in {ca : Ks} {P Z H H' : Hp} {w : List Addr} {ts : List T} {i : Nat} {x : V} (b : Base P Z H w) (y : YT ca Z ts i H x H') : ∃ t Z', ts[i]? = some t ∧ Ext Z Z' ∧ ZN P Z Z' ∧ Base P Z' H' w ∧ Ow ca H' Z' x t [] ∧ Ext H H' := by
  obtain ⟨t, e, y⟩ := y
  rcases y with ⟨rfl, o⟩ | ⟨p, xs, us, rfl, hp, rfl, rfl, A⟩ | ⟨p, xs, us, rfl, hp, rfl, rfl, A⟩
  · exact ⟨t, Z, e, Ext.refl _, ZN.refl, b, o, Ext.refl _⟩
  · exact ⟨_, upd Z p (.tup xs), e, Ext.new (b.zn hp), ZN.new b hp, b.newZ hp, .tup upd_same (OwA.mono (H := H) (Ext.new (b.zn hp)) (fun a q => absurd q List.not_mem_nil) A), Ext.new hp⟩
  · have xz : Ext Z (upd Z p (.tup xs)) := fun a o q => by
      by_cases ea : a = p
      · subst ea; rw [upd_same]; exact hp.symm.trans (b.z _ _ q)
      · rw [upd_ne ea]; exact q
    have np : p ∉ w := fun q => by
      obtain ⟨u, e1, e2⟩ := b.hw p q
      rw [hp] at e1; cases e1; cases e2
    refine ⟨_, upd Z p (.tup xs), e, xz, fun a q => ?_, ⟨fun a o q => ?_, fun a q => ?_, b.m, b.mw, b.nd, b.hw, ⟨b.tb.m, b.tb.z.upd (fun _ z => nomatch z), b.tb.t⟩⟩, .tup upd_same (OwA.mono (H := H') xz (fun a q => absurd q List.not_mem_nil) A), Ext.refl _⟩
    · by_cases ea : a = p
      · subst ea
        refine Or.inr fun o e2 => ?_
        have := b.m _ _ e2
        rw [hp] at this; cases this
        exact ⟨_, rfl⟩
      · rw [upd_ne ea] at q; exact Or.inl q
    · by_cases ea : a = p
      · subst ea; rw [upd_same] at q; cases q; exact hp
      · rw [upd_ne ea] at q; exact b.z _ _ q
    · rw [upd_ne (fun ea : a = p => np (ea ▸ q))]; exact b.zw a q
theorem drop_cons {α : Type} {ts : List α} {i : Nat} {t : α} (h : ts[i]? = some t) : ts.drop i = t :: ts.drop (i + 1) := by
  obtain ⟨hi, rfl⟩ := List.getElem?_eq_some_iff.mp h
  exact List.drop_eq_getElem_cons hi
section
variable {F : FC} {wi : TI} {g : TG} {tb : TS} {tt : TT} {mi : List Ent → R (List T)} {mg : T → List Ent → Option (List Ent)} {mb : List Ent → O} {mt : List Ent → R Bool}
theorem SS.for_core {M P Z H : Hp} {σ : St} {ρ : List Ent} {D : Ends} (hi : SIp F.c W M P Z H σ wi (mi ρ)) (hg : SG F g mg) (hb : SS F W tb mb) (mp : Ext M P) (pn : Pin F.pin F.σ0 σ) (hf : FinS F W M P Z D (mFor mi mg mb ρ)) : tFor wi g tb D σ H := by
  unfold tFor
  refine hi _ ?_
  unfold mFor at hf
  cases e : mi ρ with
  | fail => rw [e] at hf; exact hf
  | err C d ρ' => rw [e] at hf; exact fin_err pn hf
  | ok ts ρ1 =>
    rw [e] at hf
    dsimp only [R.then] at hf
    intro J H1 Z1 w1 z1 n1 b1 s1 hJ
    refine for_it hJ (fun i σ H => ∃ Z2 w2 ρ2, Ext Z1 Z2 ∧ Base P Z2 H w2 ∧ Slots F.c.ca H M Z2 σ ρ2 w2 ∧ Pin F.pin F.σ0 σ ∧ FinS F W M P Z2 D (forM mg mb (ts.drop i) ρ2)) ?_ ?_ ?_ ?_
    · exact ⟨Z1, w1, ρ1, Ext.refl _, b1, s1, pn, FinS.go z1 n1 hf⟩
    · rintro i σ2 H2 _ ⟨Z2, w2, ρ2, z2, b2, _⟩
      exact ⟨fun a o q => b2.z a o (z2 a o q), b2.m⟩
    · rintro i x σ2 H2 H3 hi2 ⟨Z2, w2, ρ2, z2, b2, s2, pn2, f2⟩ y
      obtain ⟨t, Z3, et, z3, n3, b3, o3, x3⟩ := turn_in b2 (y.mono z2)
      rw [drop_cons et] at f2
      unfold forM at f2
      have s3 := s2.mono z3 fun a _ o y => x3 a o y
      refine hg.go M P Z3 H3 σ2 ρ2 w2 x t _ b3 o3 s3 pn2 ?_
      cases eg : mg t ρ2 with
      | none => rw [eg] at f2; exact f2.elim
      | some ρ4 =>
        rw [eg] at f2
        dsimp only at f2
        intro σ4 w4 b4 s4 pn4
        refine hb.go M P Z3 H3 σ4 ρ4 w4 _ mp b4 s4 pn4 ?_
        have f3 := FinS.go z3 n3 f2
        cases eb : mb ρ4 with
        | nx ρ5 =>
          rw [eb] at f3
          intro σ5 H5 Z5 w5 z5 n5 b5 s5 pn5
          exact ⟨Z5, w5, ρ5, (z2.trans z3).trans z5, b5, s5, pn5, FinS.go z5 n5 f3⟩
        | ct ρ5 =>
          rw [eb] at f3
          intro σ5 H5 Z5 w5 z5 n5 b5 s5 pn5
          exact ⟨Z5, w5, ρ5, (z2.trans z3).trans z5, b5, s5, pn5, FinS.go z5 n5 f3⟩
        | bk ρ5 => rw [eb] at f3; exact f3
        | rt e5 ρ5 => rw [eb] at f3; exact f3
        | err C d ρ5 => rw [eb] at f3; exact f3
        | fail => rw [eb] at f3; exact f3
    · rintro σ2 H2 ⟨Z2, w2, ρ2, z2, b2, s2, pn2, f2⟩
      rw [List.drop_length] at f2
      exact f2 σ2 H2 Z2 w2 (Ext.refl _) ZN.refl b2 s2 pn2
theorem SS.for_ (hi : SI F.c W wi mi) (hg : SG F g mg) (hb : SS F W tb mb) : SS F W (tFor wi g tb) (mFor mi mg mb) :=
  ⟨fun M P Z H σ ρ w D mp b s pn hf => SS.for_core (fun Q h => hi.go M P Z H σ ρ w Q mp b s h) hg hb mp pn hf⟩
/-! ### while -/
end
/-! ### comprehensions -/
def wipeE (ρ : List Ent) : List Nat → List Ent
  | [] => ρ
  | v :: vs => (wipeE ρ vs).set v .no
def lcM (vs : List Nat) (g : T → List Ent → Option (List Ent)) (mt : List Ent → R Bool) (me : List Ent → R Ent) : List T → List T → List Ent → R Ent
  | [], acc, ρ => .ok (.own (.lst true acc)) ρ
  | t :: ts, acc, ρ => match g t ρ with
    | none => .fail
    | some ρ1 => match mt ρ1 with
      | .ok true ρ2 => (match me ρ2 with
        | .ok e ρ3 => (match e.fz with
          | some u => if acc.length < sizeLine then lcM vs g mt me ts (acc ++ [u]) (wipeE ρ3 vs) else .fail
          | none => .fail)
        | _ => .fail)
      | .ok false ρ2 => lcM vs g mt me ts acc (wipeE ρ2 vs)
      | _ => .fail
def mLc (vs : List Nat) (mi : List Ent → R (List T)) (g : T → List Ent → Option (List Ent)) (mt : List Ent → R Bool) (me : List Ent → R Ent) : List Ent → R Ent := fun ρ => (mi ρ).bind fun ts ρ1 => lcM vs g mt me ts [] (wipeE ρ1 vs)
theorem Slots.wipe {ca : Ks} {M Z H : Hp} {σ : St} {ρ : List Ent} {w : List Addr} (s : Slots ca H M Z σ ρ w) : ∀ vs : List Nat, ∃ w', (∀ x, cnt x w' ≤ cnt x w) ∧ Slots ca H M Z (wipe σ vs) (wipeE ρ vs) w'
  | [] => ⟨w, fun _ => Nat.le_refl _, s⟩
  | v :: vs => by
    obtain ⟨w', hc, s'⟩ := Slots.wipe s vs
    unfold L2.wipe wipeE
    cases e : (wipeE ρ vs)[v]? with
    | none =>
      have h1 := s'.non0 e
      have q1 := List.getElem?_eq_none_iff.mp h1
      have q2 := List.getElem?_eq_none_iff.mp e
      rw [List.set_eq_of_length_le q1, List.set_eq_of_length_le q2]
      exact ⟨w', hc, s'⟩
    | some en =>
      obtain ⟨x, l, f, r, e1, e2, sl, kk⟩ := s'.split e
      have s2 := kk (x' := none) (f' := []) (fun _ _ _ q => q) (Ext.refl _) .no
      exact ⟨l ++ ([] ++ r), fun y => by have := hc y; rw [e2] at this; simp only [cnt_app, cnt_nil] at this ⊢; omega, s2⟩
theorem wipeE_length (ρ : List Ent) : ∀ vs : List Nat, (wipeE ρ vs).length = ρ.length
  | [] => rfl
  | v :: vs => by unfold wipeE; rw [List.length_set, wipeE_length ρ vs]
theorem wipe_get {σ : St} {i : Nat} : ∀ {vs : List Nat}, i ∉ vs → (L2.wipe σ vs)[i]? = σ[i]?
  | [], _ => rfl
  | v :: vs, h => by
    unfold L2.wipe
    rw [List.getElem?_set_ne (fun e => h (by rw [e]; exact List.mem_cons_self)), wipe_get fun q => h (List.mem_cons_of_mem _ q)]
theorem wipe_in {σ : St} {i : Nat} : ∀ {vs : List Nat}, i ∈ vs → i < σ.length → (L2.wipe σ vs)[i]? = some none
  | [], h, _ => nomatch h
  | v :: vs, h, l => by
    unfold L2.wipe
    by_cases e : v = i
    · subst e
      rw [List.getElem?_set_self (by rw [wipe_length]; exact l)]
    · rw [List.getElem?_set_ne e]
      exact wipe_in ((List.mem_cons.mp h).resolve_left fun q => e q.symm) l
/-- the entries of a comprehension's names are none -/
theorem wipeE_get {ρ : List Ent} {i : Nat} : ∀ {vs : List Nat}, i ∈ vs → i < ρ.length → (wipeE ρ vs)[i]? = some .no
  | [], h, _ => nomatch h
  | v :: vs, h, l => by
    unfold wipeE
    by_cases e : v = i
    · subst e
      rw [List.getElem?_set_self (by rw [wipeE_length]; exact l)]
    · rw [List.getElem?_set_ne e]
      exact wipeE_get ((List.mem_cons.mp h).resolve_left fun q => e q.symm) l
/-- slots that differ where nothing is told -/
theorem Slots.where_ {ca : Ks} {M Z H : Hp} : ∀ {σ σ' : St} {ρ : List Ent} {w : List Addr}, Slots ca H M Z σ ρ w → σ'.length = σ.length → (∀ i : Nat, ρ[i]? ≠ some .no → σ'[i]? = σ[i]?) → Slots ca H M Z σ' ρ w
  | _, [], _, _, .nil, _, _ => .nil
  | _, _ :: _, _, _, .nil, l, _ => nomatch l
  | _, [], _, _, .cons _ _, l, _ => nomatch l
  | _, x' :: σ', _, _, .cons (e := e) a s, l, h => by
    refine .cons ?_ (Slots.where_ s (by simpa using l) fun i q => by simpa using h (i + 1) (by simpa using q))
    cases a with
    | no => exact .no
    | own o =>
      have := h 0 (by simp)
      simp at this
      rw [this]; exact .own o
    | vw o =>
      have := h 0 (by simp)
      simp at this
      rw [this]; exact .vw o
    | exc x e2 o =>
      have := h 0 (by simp)
      simp at this
      rw [this]; exact .exc x e2 o
/-- the slots that a comprehension leaves -/
def but (n : Nat) (vs : List Nat) : List Nat := (List.range n).filter fun i => !vs.contains i
theorem wipe_eq {n : Nat} {vs : List Nat} {σ σ2 : St} (hl : σ.length = n) (p : Pin (but n vs) (L2.wipe σ vs) σ2) : L2.wipe σ2 vs = L2.wipe σ vs := by
  have l2 : σ2.length = σ.length := by rw [p.len, wipe_length]
  apply List.ext_getElem?
  intro i
  by_cases hi : i < σ.length
  · by_cases hv : i ∈ vs
    · rw [wipe_in hv (by omega), wipe_in hv hi]
    · rw [wipe_get hv]
      exact p.at_ i (List.mem_filter.mpr ⟨List.mem_range.mpr (by omega), by simpa using hv⟩)
  · rw [List.getElem?_eq_none (by rw [wipe_length]; omega), List.getElem?_eq_none (by rw [wipe_length]; omega)]
theorem but_not {n : Nat} {vs : List Nat} {i : Nat} (h : vs.contains i = true) : i ∉ but n vs := fun q => by
  have := (List.mem_filter.mp q).2
  rw [h] at this; cases this
theorem FinE.step {c : VC} {W : WX} {M P Z Z' H H' : Hp} {σ : St} {w w' : List Addr} {Q : VK} {x : R Ent} (z : Ext Z Z') (n : ZN P Z Z') (hf : FinE c W false M P Z H σ w Q x) : FinE c W false M P Z' H' σ w' Q x := by
  cases x with
  | fail => exact hf
  | err C d ρ2 => exact fun x vd H2 Z2 w2 z2 n2 => hf x vd H2 Z2 w2 (z.trans z2) (n.trans n2)
  | ok k2 ρ2 => exact fun v H2 Z2 fp w2 z2 n2 b2 ev s2 ro2 => hf v H2 Z2 fp w2 (z.trans z2) (n.trans n2) b2 ev s2 fun q => nomatch q
theorem SV.lc_core {c : VC} {W : WX} {wi : TI} {g : TG} {tt : TT} {te : TE} {vs : List Nat} {mi : List Ent → R (List T)} {mg : T → List Ent → Option (List Ent)} {mt : List Ent → R Bool} {me : List Ent → R Ent} {r1 r2 : Bool}
    {M P Z H : Hp} {σ : St} {ρ : List Ent} {w : List Addr} {Q : VK} (hi : SIp c W M P Z H σ wi (mi ρ)) (hg : ∀ n σ0, SG ⟨c, but n vs, σ0⟩ g mg) (ht : ST c noW r1 tt mt) (he : SV c noW r2 te me) (mp : Ext M P) (hf : FinE c W false M P Z H σ w Q (mLc vs mi mg mt me ρ)) : tLc wi g tt te vs σ H Q := by
  unfold tLc
  refine hi _ ?_
  unfold mLc at hf
  cases e : mi ρ with
  | fail => rw [e] at hf; exact hf
  | err C d ρ' => rw [e] at hf; exact hf
  | ok ts ρ1 =>
    rw [e] at hf
    dsimp only [R.bind] at hf
    intro J H1 Z1 w1 z1 n1 b1 s1 hJ D hD
    refine lc_it hJ (fun i H => ∃ Z2 w2 ρ2 acc ta, Ext Z1 Z2 ∧ Base P Z2 H (D :: w2) ∧ H D = some (.lst acc) ∧ OwA c.ca H Z2 acc ta [] ∧ Slots c.ca H M Z2 (L2.wipe σ vs) (wipeE ρ2 vs) w2 ∧ FinE c W false M P Z2 H σ w Q (lcM vs mg mt me (ts.drop i) ta (wipeE ρ2 vs))) ?_ ?_ ?_ ?_
    · obtain ⟨w2, hc, s2⟩ := s1.wipe vs
      refine ⟨Z1, w2, ρ1, [], [], Ext.refl _, (b1.new hD).cnt fun x => by have := hc x; rw [cnt_cons, cnt_cons (a := w1)]; omega, upd_same, .nil, s2.mono (Ext.refl _) fun a _ o y => Ext.new hD a o y, FinE.step z1 n1 hf⟩
    · rintro i H2 _ ⟨Z2, w2, ρ2, acc, ta, z2, b2, _⟩
      exact ⟨fun a o q => b2.z a o (z2 a o q), b2.m⟩
    · rintro i x H2 H3 hi2 ⟨Z2, w2, ρ2, acc, ta, z2, b2, hD2, A2, s2, f2⟩ y
      obtain ⟨t, Z3, et, z3, n3, b3, o3, x3⟩ := turn_in b2 (y.mono z2)
      rw [drop_cons et] at f2
      unfold lcM at f2
      have s3 := s2.mono z3 fun a _ o y => x3 a o y
      have b3' : Base P Z3 H3 ([D] ++ w2) := b3
      have mp' := mp.trans b3'.le
      refine (hg σ.length (L2.wipe σ vs)).go M (Rm.out w2 H3) Z3 H3 (L2.wipe σ vs) (wipeE ρ2 vs) w2 x t _ b3'.out o3 s3 ⟨fun _ _ => rfl, rfl⟩ ?_
      cases eg : mg t (wipeE ρ2 vs) with
      | none => rw [eg] at f2; exact f2.elim
      | some ρ4 =>
      rw [eg] at f2
      dsimp only at f2
      intro σ4 w4 b4 s4 pn4
      have ew : L2.wipe σ4 vs = L2.wipe σ vs := wipe_eq rfl pn4
      refine ⟨ew, ht.go M (Rm.out w2 H3) Z3 H3 σ4 ρ4 w4 _ mp' b4 s4 ?_⟩
      cases em : mt ρ4 with
      | fail => rw [em] at f2; exact f2.elim
      | err C d ρ5 => rw [em] at f2; exact f2.elim
      | ok k ρ5 =>
      rw [em] at f2
      intro H5 Z5 w5 z5 n5 b5 s5 ro5
      have b5' := Base.join (fp := [D]) (f := []) b3' b5 n5
      have hD5 : H5 D = some (.lst acc) := b5.m D _ (b3'.keep D List.mem_cons_self _ (x3 _ _ hD2))
      have nn5 : ZN P Z2 Z5 := n3.trans (n5.of b3'.le)
      cases k with
      | false =>
        rw [if_neg (by decide)]
        dsimp only at f2
        obtain ⟨w6, hc, s6⟩ := s5.wipe vs
        rw [ew] at s6
        refine ⟨Z5, w6, ρ5, acc, ta, (z2.trans z3).trans z5, b5'.cnt fun x => ?_, hD5, A2.mono (z3.trans z5) (fun a q => absurd q List.not_mem_nil), s6, FinE.step (z3.trans z5) nn5 f2⟩
        have := hc x
        rw [cnt_cons]; simp only [cnt_app, cnt_nil]; omega
      | true =>
        rw [if_pos rfl]
        dsimp only at f2
        refine he.go M (Rm.out w2 H3) Z5 H5 σ4 ρ5 w5 _ mp' b5 s5 ?_
        cases ee : me ρ5 with
        | fail => rw [ee] at f2; exact f2.elim
        | err C d ρ6 => rw [ee] at f2; exact f2.elim
        | ok en ρ6 =>
        rw [ee] at f2
        dsimp only at f2
        intro v H6 Z6 fp w6 z6 n6 b6 ev s6 _
        cases eu : en.fz with
        | none => rw [eu] at f2; exact f2.elim
        | some u =>
        rw [eu] at f2
        dsimp only at f2
        split at f2
        rotate_left
        · exact f2.elim
        rename_i hz
        have o := ev.fz (Z' := fzZ fp H6 Z6) (fzZ_ext b6) (fun a y => fzZ_in a y) eu
        have b7 := b6.fz
        have z7 := z6.trans (fzZ_ext b6)
        have n7 := n6.trans (fzZ_zn b6)
        have hD6 : H6 D = some (.lst acc) := b7.m D _ (b3'.keep D List.mem_cons_self _ (x3 _ _ hD2))
        have b7' := Base.join (fp := [D]) (f := []) b3' b7 (n5.trans n7)
        have s7 := s6.mono (H' := H6) (fzZ_ext b6) (fun _ _ _ y => y)
        obtain ⟨w8, hc, s8⟩ := s7.wipe vs
        rw [ew] at s8
        have A7 : OwA c.ca H6 (fzZ fp H6 Z6) acc ta [] := A2.mono ((z3.trans z5).trans z7) (fun a q => absurd q List.not_mem_nil)
        have b8 : Base P (fzZ fp H6 Z6) H6 (D :: w8) := b7'.cnt fun x => by have := hc x; rw [cnt_cons]; simp only [cnt_app, cnt_nil]; omega
        refine ⟨acc, hD6, by have := A2.length; omega, fzZ fp H6 Z6, w8, ρ6, acc ++ [v], ta ++ [u], ((z2.trans z3).trans z5).trans z7, b8.put List.mem_cons_self, upd_same, (A7.app (.cons (f := []) (g := []) o .nil)).any, s8.mono (Ext.refl _) fun a q o' y => ?_, FinE.step ((z3.trans z5).trans z7) (nn5.trans (n7.of b3'.le)) f2⟩
        have : a ≠ D := fun e => (List.nodup_cons.mp b8.nd).1 (e ▸ q)
        rw [upd_ne this]; exact y
    · rintro H2 ⟨Z2, w2, ρ2, acc, ta, z2, b2, hD2, A2, s2, f2⟩
      rw [List.drop_length] at f2
      refine f2 (.ref D) H2 Z2 [D] w2 (Ext.refl _) ZN.refl b2 (.own (.lstO hD2 A2)) (s2.where_ (by rw [wipe_length]) fun i q => ?_) fun q => nomatch q
      by_cases hv : i ∈ vs
      · by_cases hl : i < (wipeE ρ2 vs).length
        · rw [wipeE_length] at hl
          exact absurd (wipeE_get hv hl) q
        · have h1 := s2.length
          rw [wipe_length] at h1
          rw [List.getElem?_eq_none (by omega), List.getElem?_eq_none (by rw [wipe_length]; omega)]
      · exact (wipe_get hv).symm
theorem SV.lc {c : VC} {W : WX} {wi : TI} {g : TG} {tt : TT} {te : TE} {vs : List Nat} {mi : List Ent → R (List T)} {mg : T → List Ent → Option (List Ent)} {mt : List Ent → R Bool} {me : List Ent → R Ent} {r1 r2 : Bool}
    (hi : SI c W wi mi) (hg : ∀ n σ0, SG ⟨c, but n vs, σ0⟩ g mg) (ht : ST c noW r1 tt mt) (he : SV c noW r2 te me) : SV c W false (tLc wi g tt te vs) (mLc vs mi mg mt me) :=
  ⟨fun M P Z H σ ρ w Q mp b s hf => SV.lc_core (fun Q h => hi.go M P Z H σ ρ w Q mp b s h) hg ht he mp hf⟩
end
end Rm
/-! Rm, part VD: more rules. -/
namespace Rm
open PySem PySem.Spec L2
open PyProof.Rows hiding St
variable [Tb]
section
variable {c : VC} {W : WX} {r r1 r2 : Bool} {t t1 t2 to te : TE} {ta : TA} {m m1 m2 : List Ent → R Ent} {ms : List Ent → R (List Ent)}
theorem SV.tup (h : SA c W r ta ms) : SV c W r (tTup ta) (mSeq true ms) := SA.seq true h
theorem SV.cb {rd : List V → Hp → VK → Prop} {p : List T → Option Ent} (pr : Prim c.ca rd p) (h : SA c W r ta ms) : SV c W r (tCB rd ta) (mPrim p ms) := SA.prim pr h
/-- a list's own items are kept -/
def keepAll : List Ent → Option (List T)
  | [] => some []
  | e :: es => match e.keep, keepAll es with
    | some t, some ts => some (t :: ts)
    | _, _ => none
theorem EntVs.keep {ca : Ks} {H Z : Hp} : ∀ {vs : List V} {es : List Ent} {fp : List Addr} {ts : List T}, EntVs ca H Z vs es fp → keepAll es = some ts → OwA ca H Z vs ts fp
  | _, _, _, _, .nil, h => by cases h; exact .nil
  | _, _, _, _, .cons ev A, h => by
    unfold keepAll at h
    split at h
    · rename_i t as q1 q2
      cases h
      exact .cons (ev.keep q1) (EntVs.keep A q2)
    · cases h
def mLst (ms : List Ent → R (List Ent)) : List Ent → R Ent := fun ρ => (ms ρ).bind fun es ρ' => match keepAll es with
  | some ts => if ts.length ≤ sizeLine then .ok (.own (.lst true ts)) ρ' else .fail
  | none => .fail
theorem SV.lst (h : SA c W r ta ms) : SV c W r (tLst ta) (mLst ms) := by
  refine ⟨fun M P Z H σ ρ w Q mp b s hf => ?_⟩
  unfold tLst
  refine h.go M P Z H σ ρ w _ mp b s ?_
  unfold mLst at hf
  cases e : ms ρ with
  | fail => rw [e] at hf; exact hf
  | err C d ρ' => rw [e] at hf; exact hf
  | ok es ρ' =>
    rw [e] at hf
    dsimp only [R.bind] at hf
    intro vs H1 Z1 fp w1 z1 n1 b1 ev s1 ro
    split at hf
    rotate_left
    · exact hf.elim
    rename_i ts q
    have A := ev.keep q
    have hl := A.length
    split at hf
    rotate_left
    · exact hf.elim
    rename_i hz
    refine ⟨by omega, fun p hp => ?_⟩
    have x : Ext H1 (upd H1 p (.lst vs)) := Ext.new hp
    exact hf (.ref p) _ Z1 (p :: fp) w1 z1 n1 (b1.new hp) (.own (.lstO upd_same (A.mono (Ext.refl _) fun a _ o y => x a o y))) (s1.mono (Ext.refl _) fun a _ o y => x a o y) fun q => ⟨(ro q).1.trans x, (ro q).2⟩
/-! ### sorted, list of a dict -/
def keyT : Key → T
  | .inl i => .int i
  | .inr x => .str x
theorem owA_keys {ca : Ks} {H Z : Hp} : ∀ ks : List Key, OwA ca H Z (ks.map kV) (ks.map keyT) []
  | [] => .nil
  | .inl i :: ks => .cons (f := []) (g := []) (.int i) (owA_keys ks)
  | .inr x :: ks => .cons (f := []) (g := []) (.str x) (owA_keys ks)
abbrev rListD : List V → Hp → VK → Prop := fun xs H Q => ∃ (a : Addr) (kvs : List (Key × V)), xs = [.ref a] ∧ Rd H a (.dK kvs) ∧ ∀ p, H p = none → Q (.ref p) (upd H p (.lst (kvs.map fun kv => kV kv.1)))
def pListD : List T → Option Ent := fun ts => match ts with
  | [.dct _ ps] => some (.own (.lst true (ps.map fun p => keyT p.1)))
  | _ => none
theorem pr_listD {ca : Ks} : Prim ca rListD pListD := ⟨fun P Z H w vs ts Q b o h => by
  unfold pListD at h
  split at h
  rotate_left
  · exact h.elim
  rename_i oo ps
  obtain ⟨v, g, rfl, h1⟩ := o.i1
  obtain ⟨a, ks, _, rfl, e1, ek, A⟩ := ow_dct b h1
  refine ⟨a, ks, rfl, rdo_rd e1, fun p hn => ?_⟩
  have q : OwA ca H Z ((ks.map (·.1)).map kV) ((ps.map (·.1)).map keyT) [] := by
    rw [← ek]
    exact owA_keys _
  rw [List.map_map, List.map_map] at q
  exact Res.lst h b hn q⟩
end
/-! ### statements -/
section
variable {F : FC} {W : WX} {r : Bool} {te to ti : TE} {ta : TA} {i j : Nat} {mp : List Ent → R (T × (T → T))} {me mi : List Ent → R Ent} {ms : List Ent → R (List Ent)}
def mPar (i j : Nat) (ms : List Ent → R (List Ent)) : List Ent → O := fun ρ => (ms ρ).then fun es ρ1 => match es.map Ent.keep with
  | [some t, some u] => if i < ρ1.length ∧ j < ρ1.length then .nx ((ρ1.set i (.own t)).set j (.own u)) else .fail
  | _ => .fail
theorem SS.par (hi : i ∉ F.pin) (hj : j ∉ F.pin) (h : SA F.c W r ta ms) : SS F W (tPar i j ta) (mPar i j ms) := by
  refine ⟨fun M P Z H σ ρ w D mp b s pn hf => ?_⟩
  unfold tPar
  refine h.go M P Z H σ ρ w _ mp b s ?_
  unfold mPar at hf
  cases e : ms ρ with
  | fail => rw [e] at hf; exact hf
  | err C d ρ' => rw [e] at hf; exact fin_err pn hf
  | ok es ρ1 =>
    rw [e] at hf
    dsimp only [R.then] at hf
    intro vs H1 Z1 fp w1 z1 n1 b1 ev s1 ro
    cases ev with
    | nil => exact hf.elim
    | cons ev1 A =>
    cases A with
    | nil => dsimp only [List.map] at hf; split at hf <;> first | exact hf.elim | (rename_i q; simp at q)
    | cons ev2 A =>
    cases A with
    | cons ev3 A => dsimp only [List.map] at hf; split at hf <;> first | exact hf.elim | (rename_i q; simp at q)
    | nil =>
    rename_i v1 e1 f1 v2 e2 f2
    dsimp only [List.map] at hf
    split at hf
    rotate_left
    · exact hf.elim
    rename_i t u q
    injection q with q1 q2
    injection q2 with q2 _
    split at hf
    rotate_left
    · exact hf.elim
    rename_i hl
    refine ⟨v1, v2, rfl, ?_⟩
    rw [List.append_nil] at b1
    have b1' : Base P Z1 H1 (f1 ++ (f2 ++ w1)) := by rw [← List.append_assoc]; exact b1
    have b2 : Base P Z1 H1 (f2 ++ w1) := b1'.drop
    obtain ⟨x, l, f, rr, x1, x2, sl, kk⟩ := s1.split (List.getElem?_eq_getElem hl.1)
    have s2 := kk (x' := some v1) (fun _ _ _ q => q) (Ext.refl _) (.own (ev1.keep q1))
    obtain ⟨x', l', f', rr', x1', x2', sl', kk'⟩ := s2.split (List.getElem?_eq_getElem (by rw [List.length_set]; exact hl.2) : (ρ1.set i (.own t))[j]? = _)
    have s3 := kk' (x' := some v2) (fun _ _ _ q => q) (Ext.refl _) (.own (ev2.keep q2))
    refine hf _ H1 Z1 _ z1 n1 (b1'.cnt fun y => ?_) s3 ((pn.set hi).set hj)
    have h1 := congrArg (cnt y) x2
    have h2 := congrArg (cnt y) x2'
    simp only [cnt_app] at h1 h2 ⊢
    omega
theorem OwP.drop {ca : Ks} {H Z : Hp} {k : Key} : ∀ {ks : List (Key × V)} {ps : List (Key × T)} {f : List Addr}, ks.map (·.1) = ps.map (·.1) → OwA ca H Z (ks.map (·.2)) (ps.map (·.2)) f → ∃ f', (∀ x, cnt x f' ≤ cnt x f) ∧ OwA ca H Z ((dropT ks k).map (·.2)) ((dropT ps k).map (·.2)) f'
  | [], [], _, _, A => ⟨_, fun _ => Nat.le_refl _, A⟩
  | [], _ :: _, _, e, _ => nomatch e
  | _ :: _, [], _, e, _ => nomatch e
  | a :: ks, b :: ps, _, e, A => by
    simp only [List.map_cons, List.cons.injEq] at e
    simp only [List.map_cons] at A
    cases A with
    | @cons _ _ _ _ f1 g1 h A =>
      obtain ⟨f', hc, A'⟩ := OwP.drop e.2 A
      by_cases q : b.1 = k
      · refine ⟨f', fun x => by have := hc x; simp only [cnt_app]; omega, ?_⟩
        simp only [dropT, List.filter_cons, e.1, q, ne_eq, not_true_eq_false, decide_false, Bool.false_eq_true, if_false] at A' ⊢
        exact A'
      · refine ⟨f1 ++ f', fun x => by have := hc x; simp only [cnt_app]; omega, ?_⟩
        simp only [dropT, List.filter_cons, e.1, q, ne_eq, not_false_eq_true, decide_true, if_true, List.map_cons] at A' ⊢
        exact .cons h A'
def mDDel (i : Nat) (mp : List Ent → R (T × (T → T))) (mi : List Ent → R Ent) : List Ent → O := fun ρ => (mp ρ).then fun uk ρ1 => (mi ρ1).then fun e _ => match uk.1, e.t.key with
  | .dct true ps, some k => if (getK ps k).isSome = true then .nx (ρ1.set i (.own (uk.2 (.dct true (dropT ps k))))) else .fail
  | _, _ => .fail
end
end Rm
/-! Rm, part VE: dict displays, own dunders, names bound in parallel. -/
namespace Rm
open PySem PySem.Spec L2
open PyProof.Rows hiding St
variable [Tb]
section
variable {c : VC} {W : WX} {r r1 r2 : Bool} {t t1 t2 to te : TE} {ta : TA} {m m1 m2 : List Ent → R Ent} {ms : List Ent → R (List Ent)}
/-! ### a call within an operation -/
def argT (t : T) : Ent := (Ent.vw t).arg
theorem OwVs.args {ca : Ks} {H M Z : Hp} (x : Ext H M) : ∀ {vs : List V} {ts : List T}, OwVs ca H Z vs ts → Slots ca H M Z (vs.map some) (ts.map argT) []
  | _, _, .nil => .nil
  | _, _, .cons h A => .cons (f := []) (g := []) (EntV.arg x (.vw h)) (OwVs.args x A)
theorem OwVs.toB {H Z : Hp} : ∀ {vs : List V} {ts : List T}, OwVs c.ca H Z vs ts → OwVs c.base.ca H Z vs ts
  | _, _, .nil => .nil
  | _, _, .cons h A => .cons h.toB (OwVs.toB A)
theorem OwVs.length {ca : Ks} {H Z : Hp} : ∀ {vs : List V} {ts : List T}, OwVs ca H Z vs ts → vs.length = ts.length
  | _, _, .nil => rfl
  | _, _, .cons _ A => congrArg (· + 1) (OwVs.length A)
theorem spV_prim {n : Nat} {P Z H : Hp} {w : List Addr} {vs : List V} {ts : List T} {Q : VK} {E : XK} (hm : ∀ ρ, ρ.length ≠ n → m ρ = .fail) (b : Base P Z H w) (o : OwVs c.ca H Z vs ts)
    (k : match m (ts.map argT) with
      | .ok e _ => ∀ v H' Z' f, Ext H H' → Ext Z Z' → ZN P Z Z' → Base P Z' H' (f ++ w) → EntV c.ca H' Z' v e f → Q v H'
      | _ => False) : spV0 c n m vs H Q E := by
  have b0 : BaseT [] H Z H [] := ⟨b.z, (fun _ q => nomatch q), Ext.refl _, (fun _ q => nomatch q), List.nodup_nil, (fun _ q => nomatch q), TbOk.nil b.tb.z⟩
  have hn : vs.length = n := by
    by_cases q : ts.length = n
    · exact o.length.trans q
    · rw [hm _ (by simpa using q)] at k; exact k.elim
  refine ⟨hn, Z, [], ts.map argT, by rw [out_nil]; exact b0, by rw [out_nil]; exact (o.toB).args (Ext.refl _), ?_⟩
  rw [out_nil]
  cases e : m (ts.map argT) with
  | fail => rw [e] at k; exact k
  | err C d ρ2 => rw [e] at k; exact k.elim
  | ok en ρ2 =>
    rw [e] at k
    intro v H2 Z2 f2 w2 z2 n2 b2 ev2 s2
    exact k v H2 Z2 f2 b2.m z2 (n2.of b.m) ((b.beside (fun a _ o y => y) b.m n2 b2 fun _ _ y _ => y).cnt fun x => by simp only [cnt_app]; omega) ev2.ofB
def isC (C : Str) : T → Bool
  | .ins _ C' _ => decide (C' = C)
  | _ => false
theorem isC_at {ca : Ks} {P Z H : Hp} {w g : List Addr} {v : V} {t : T} {C : Str} (b : Base P Z H w) (o : Ow ca H Z v t g) (h : isC C t = true) : ∃ a dx fs, v = .ref a ∧ H a = some (.ins (ca.cl C) dx fs) := by
  unfold isC at h
  split at h
  · simp only [decide_eq_true_eq] at h
    subst h
    obtain ⟨a, dx, gs, f, rfl, ea, ek, A⟩ := ow_ins b o
    exact ⟨a, dx, gs, rfl, ea⟩
  · cases h
/-! ### a sign in a text -/
/-! ### dict displays -/
inductive PairVs (ca : Ks) (H Z : Hp) : List (V × V) → List (Key × Ent) → List Addr → Prop
  | nil : PairVs ca H Z [] [] []
  | cons {k : Key} {v : V} {e : Ent} {f g : List Addr} {ps : List (V × V)} {es : List (Key × Ent)} : EntV ca H Z v e f → PairVs ca H Z ps es g → PairVs ca H Z ((kV k, v) :: ps) ((k, e) :: es) (f ++ g)
structure SD (c : VC) (W : WX) (trs : List (TE × TE)) (m : List Ent → R (List (Key × Ent))) : Prop where
  go : ∀ (M P Z H : Hp) (σ : St) (ρ : List Ent) (w : List Addr) (Q : List (V × V) → Hp → Prop), Ext M P → Base P Z H w → Slots c.ca H M Z σ ρ w → (match m ρ with
    | .ok es ρ' => ∀ ps H' Z' fp w', Ext Z Z' → ZN P Z Z' → Base P Z' H' (fp ++ w') → PairVs c.ca H' Z' ps es fp → Slots c.ca H' M Z' σ ρ' w' → Q ps H'
    | .err C d ρ' => ∀ x vd H' Z' w', Ext Z Z' → ZN P Z Z' → Base P Z' H' w' → Z' x = some (.xd [(c.ef C, vd)]) → Ow c.ca H' Z' vd d [] → Slots c.ca H' M Z' σ ρ' w' → W (.ref (c.ca.cl C)) (some x) σ H'
    | .fail => False) → tPairs trs σ H Q
def mDNil : List Ent → R (List (Key × Ent)) := fun ρ => .ok [] ρ
def mDCons (mk mv : List Ent → R Ent) (mr : List Ent → R (List (Key × Ent))) : List Ent → R (List (Key × Ent)) := fun ρ => (mk ρ).bind fun ek ρ1 => match ek.t.key with
  | some k => (mv ρ1).bind fun e ρ2 => if e.held = true then (mr ρ2).bind fun es ρ3 => .ok ((k, e) :: es) ρ3 else .fail
  | none => .fail
theorem SD.nil : SD c W [] mDNil := ⟨fun M P Z H σ ρ w Q mp b s h => h [] H Z [] w (Ext.refl _) ZN.refl b .nil s⟩
theorem SD.cons {trs : List (TE × TE)} {mr : List Ent → R (List (Key × Ent))} (h1 : SV c W r1 t1 m1) (h2 : SV c W r2 t2 m2) (h3 : SD c W trs mr) : SD c W ((t1, t2) :: trs) (mDCons m1 m2 mr) := by
  refine ⟨fun M P Z H σ ρ w Q mp b s h => ?_⟩
  unfold tPairs
  refine h1.go M P Z H σ ρ w _ mp b s ?_
  unfold mDCons at h
  cases e1 : m1 ρ with
  | fail => rw [e1] at h; exact h
  | err C d ρ1 => rw [e1] at h; exact h
  | ok ek ρ1 =>
    rw [e1] at h
    dsimp only [R.bind] at h
    intro kv H1 Z1 fk w1 z1 n1 b1 evk s1 ro1
    obtain ⟨gk, ok⟩ := evk.ow
    cases eq : ek.t.key with
    | none => rw [eq] at h; exact h.elim
    | some k =>
    rw [eq] at h
    dsimp only at h
    obtain ⟨_, rfl⟩ := ow_key ok eq
    refine h2.go M P Z1 H1 σ ρ1 w1 _ mp b1.drop s1 ?_
    cases e2 : m2 ρ1 with
    | fail => rw [e2] at h; exact h
    | err C d ρ2 => rw [e2] at h; exact fun x vd H2 Z2 w2 z2 n2 => h x vd H2 Z2 w2 (z1.trans z2) (n1.trans n2)
    | ok e ρ2 =>
    rw [e2] at h
    dsimp only at h
    intro v H2 Z2 fp w2 z2 n2 b2 ev s2 ro2
    by_cases hh : e.held = true
    rotate_left
    · rw [if_neg hh] at h; exact h.elim
    rw [if_pos hh] at h
    refine h3.go M (Rm.out w2 H2) Z2 H2 σ ρ2 w2 _ (mp.trans b2.le) b2.out s2 ?_
    cases e3 : mr ρ2 with
    | fail => rw [e3] at h; exact h
    | err C d ρ3 =>
      rw [e3] at h
      intro x vd H3 Z3 w3 z3 n3 b3 hx ov s3
      exact h x vd H3 Z3 w3 ((z1.trans z2).trans z3) ((n1.trans n2).trans (n3.of b2.le)) (b3.less b2.le) hx ov s3
    | ok es ρ3 =>
    rw [e3] at h
    dsimp only at h ⊢
    intro ps H3 Z3 fp3 w3 z3 n3 b3 pv s3
    have kf : ∀ a ∈ fp, ∀ o, H2 a = some o → H3 a = some o := fun a q o y => b3.m a o (b2.keep a q o y)
    refine h ((kV k, v) :: ps) H3 Z3 (fp ++ fp3) w3 ((z1.trans z2).trans z3) ((n1.trans n2).trans (n3.of b2.le)) (Base.join b2 b3 n3) (.cons (ev.mono z3 kf fun ⟨t, q, y⟩ => ?_) pv) s3
    rw [q] at hh
    simp only [Ent.held] at hh
    rw [y] at hh; cases hh
def keepP : List (Key × Ent) → Option (List (Key × T))
  | [] => some []
  | (k, e) :: es => match e.keep, keepP es with
    | some t, some ts => some ((k, t) :: ts)
    | _, _ => none
def mDisp (mr : List Ent → R (List (Key × Ent))) : List Ent → R Ent := fun ρ => (mr ρ).bind fun es ρ' => match keepP es with
  | some ps => if (ps.map (·.1)).Nodup ∧ ps.length ≤ 15 then .ok (.own (.dct true ps)) ρ' else .fail
  | none => .fail
theorem PairVs.keep {ca : Ks} {H Z : Hp} : ∀ {ps : List (V × V)} {es : List (Key × Ent)} {fp : List Addr} {ts : List (Key × T)}, PairVs ca H Z ps es fp → keepP es = some ts →
    ∃ kvs : List (Key × V), ps = kvs.map (fun kv => (kV kv.1, kv.2)) ∧ kvs.map (·.1) = ts.map (·.1) ∧ OwA ca H Z (kvs.map (·.2)) (ts.map (·.2)) fp
  | _, _, _, _, .nil, h => by cases h; exact ⟨[], rfl, rfl, .nil⟩
  | _, _, _, _, .cons (k := k) (v := v) ev A, h => by
    unfold keepP at h
    split at h
    · rename_i t ts q1 q2
      cases h
      obtain ⟨kvs, e1, e2, e3⟩ := PairVs.keep A q2
      refine ⟨(k, v) :: kvs, by rw [e1]; rfl, by simp only [List.map_cons, e2], ?_⟩
      simp only [List.map_cons]
      exact .cons (ev.keep q1) e3
    · cases h
theorem putT_not {κ α : Type} [DecidableEq κ] {ks : List (κ × α)} {k : κ} {v : α} (h : k ∉ ks.map (·.1)) : putT ks k v = ks ++ [(k, v)] := by
  induction ks with
  | nil => rfl
  | cons p r ih =>
    simp only [List.map_cons, List.mem_cons, not_or] at h
    obtain ⟨k', x⟩ := p
    have h1 : ¬ k' = k := fun e => h.1 e.symm
    simp only [putT, if_neg h1, ih h.2, List.cons_append]
theorem mergeK_nd : ∀ {more acc : List (Key × V)}, ((acc ++ more).map (·.1)).Nodup → mergeK acc more = acc ++ more
  | [], acc, _ => by simp [mergeK]
  | kv :: more, acc, n => by
    have h1 : kv.1 ∉ acc.map (·.1) := fun q => by
      rw [List.map_append, List.nodup_append] at n
      exact n.2.2 _ q _ (by simp) rfl
    have n0 : (acc.map (·.1)).Nodup := by rw [List.map_append, List.nodup_append] at n; exact n.1
    have : mergeK acc (kv :: more) = mergeK (putK acc kv.1 kv.2) more := rfl
    rw [this, putK_putT n0, putT_not h1, mergeK_nd (by simpa using n)]
    simp
theorem SV.disp {trs : List (TE × TE)} {mr : List Ent → R (List (Key × Ent))} (h : SD c W trs mr) : SV c W false (tDisp trs) (mDisp mr) := by
  refine ⟨fun M P Z H σ ρ w Q mp b s hf => ?_⟩
  intro p hp
  have x1 : Ext H (upd H p (.dK [])) := Ext.new hp
  have b0 : Base P Z (upd H p (.dK [])) ([p] ++ w) := b.new hp
  have s0 := s.mono (H' := upd H p (.dK [])) (Ext.refl _) fun a _ o y => x1 a o y
  refine h.go M (Rm.out w (upd H p (.dK []))) Z _ σ ρ w _ (mp.trans b0.le) b0.out s0 ?_
  unfold mDisp at hf
  cases e : mr ρ with
  | fail => rw [e] at hf; exact hf
  | err C d ρ' =>
    rw [e] at hf
    exact fun x vd H' Z' w' z n b' => hf x vd H' Z' w' z (n.of b0.le) (b'.less b0.le)
  | ok es ρ' =>
    rw [e] at hf
    dsimp only [R.bind] at hf
    intro ps H2 Z2 fp w2 z2 n2 b2 pv s2
    split at hf
    rotate_left
    · exact hf.elim
    rename_i ts q
    split at hf
    rotate_left
    · exact hf.elim
    rename_i hq
    obtain ⟨kvs, rfl, ek, A⟩ := pv.keep q
    have hp2 : H2 p = some (.dK []) := b2.m p _ (b0.keep p List.mem_cons_self _ upd_same)
    have bj := Base.join b0 b2 n2
    have hl : kvs.length = ts.length := by have := congrArg List.length ek; simpa using this
    refine ⟨hp2, kvs, rfl, by omega, ?_⟩
    rw [mergeK_nd (by rw [List.nil_append, ek]; exact hq.1), List.nil_append]
    have nd := bj.nd
    have off : ∀ a, a ∈ fp ∨ a ∈ w2 → a ≠ p := fun a h e => by
      subst e
      have := nd_cnt.mp nd a
      simp only [cnt_app] at this
      have h1 : cnt a [a] = 1 := by simp [cnt]
      rcases h with h | h
      · have := cnt_mem.mp h; omega
      · have := cnt_mem.mp h; omega
    refine hf (.ref p) _ Z2 (p :: fp) w2 z2 (n2.of b0.le) (bj.put (by simp)) (.own (.dctO (rdo_of upd_same fun _ _ z => nomatch z) ek (A.mono (Ext.refl _) fun a q o y => ?_) hq.1)) (s2.mono (Ext.refl _) fun a q o y => ?_) fun q => nomatch q
    · rw [upd_ne (off a (Or.inl q))]; exact y
    · rw [upd_ne (off a (Or.inr q))]; exact y
end
/-! ### a, b, .. = x, y, .. -/
def gNs : List Nat → TGs
  | [] => gNil
  | i :: is => gCons (gName i) (gNs is)
structure SN (F : FC) (is : List Nat) (gs : TGs) : Prop where
  e : gs = gNs is
  n : ∀ i ∈ is, i ∉ F.pin
def setN : List Nat → List Ent → List Ent → Option (List Ent)
  | [], [], ρ => some ρ
  | i :: is, e :: es, ρ => match e.keep with
    | some t => if i < ρ.length then setN is es (ρ.set i (.own t)) else none
    | none => none
  | _, _, _ => none
def mParN (is : List Nat) (ms : List Ent → R (List Ent)) : List Ent → O := fun ρ => (ms ρ).then fun es ρ1 => if es.length ≤ sizeLine then (match setN is es ρ1 with
  | some ρ2 => .nx ρ2
  | none => .fail) else .fail
section
variable {F : FC} {W : WX} {r : Bool} {ta : TA} {ms : List Ent → R (List Ent)} {is : List Nat} {gs : TGs}
theorem SN.nil : SN F [] gNil := ⟨rfl, (fun _ q => nomatch q)⟩
theorem SN.cons (i : Nat) (h : i ∉ F.pin) (s : SN F is gs) : SN F (i :: is) (gCons (gName i) gs) := ⟨by rw [s.e]; rfl, fun j q => (List.mem_cons.mp q).elim (fun e => e ▸ h) (s.n j)⟩
end
end Rm
/-! Rm, part VF: try .. except .. as e; d.pop(k). -/
namespace Rm
open PySem PySem.Spec L2
open PyProof.Rows hiding St
variable [Tb]
def Ent.clean : Ent → Ent
  | .exc _ _ => .no
  | e => e
section
variable {ca ca' : Ks} {M Z H : Hp}
theorem Slots.clean (e : ca.cl = ca'.cl) : ∀ {σ : St} {ρ : List Ent} {w : List Addr}, Slots ca H M Z σ ρ w → Slots ca' H M Z σ (ρ.map Ent.clean) w
  | _, _, _, .nil => .nil
  | _, _, _, .cons a s => .cons (match a with
    | .no => .no
    | .own o => .own (o.re e)
    | .vw o => .vw (o.re e)
    | .exc _ _ _ => .no) (Slots.clean e s)
theorem Slots.re (e : ca.cl = ca'.cl) (h : ∀ x, ca.xo x = none) : ∀ {σ : St} {ρ : List Ent} {w : List Addr}, Slots ca H M Z σ ρ w → Slots ca' H M Z σ ρ w
  | _, _, _, .nil => .nil
  | _, _, _, .cons a s => .cons (match a with
    | .no => .no
    | .own o => .own (o.re e)
    | .vw o => .vw (o.re e)
    | .exc x _ _ => by rw [h] at x; cases x) (Slots.re e h s)
end
/-- where e is at hand -/
abbrev VC.exc (c : VC) (a dd : Addr) : VC := ⟨⟨c.ca.cl, fun x => if x = a then some dd else none⟩, c.ef⟩
def mExc (n : Str) (i : Nat) : List Ent → R Ent := fun ρ => match ρ[i]? with
  | some (.exc f t) => if f = n then .ok (.own t) ρ else .fail
  | _ => .fail
theorem sv_xf {c : VC} {W : WX} {a dd : Addr} {C n : Str} {i : Nat} : SV (c.exc a dd) W true (tXf a (.ref (c.ca.cl C)) (some dd) (c.ca.cl C) n (tV i)) (mExc n i) := by
  refine ⟨fun M P Z H σ ρ w Q mp b s hf => ?_⟩
  unfold mExc at hf
  split at hf
  rotate_left
  · exact hf.elim
  rename_i f t e
  split at hf
  rotate_left
  · exact hf.elim
  rename_i q
  subst q
  obtain ⟨x, l, fp, r, e1, e2, sl, _⟩ := s.split e
  cases sl with
  | @exc a' dd' vd _ _ ex ez o =>
    have ha : a' = a ∧ dd' = dd := by
      dsimp only at ex
      split at ex
      · rename_i q
        cases ex
        exact ⟨q, rfl⟩
      · cases ex
    obtain ⟨rfl, rfl⟩ := ha
    unfold tXf tV
    rw [e1]
    refine ⟨rfl, rfl, dd', [(f, vd)], vd, rfl, b.z _ _ ez, lk_hd, ?_⟩
    exact hf vd H Z [] w (Ext.refl _) ZN.refl b (.own o.any) s fun _ => ⟨Ext.refl _, rfl⟩
/-- behind the handler -/
def O.out (i : Nat) : O → O
  | .nx ρ => .nx ((ρ.map Ent.clean).set i .no)
  | .bk ρ => .bk ((ρ.map Ent.clean).set i .no)
  | .ct ρ => .ct ((ρ.map Ent.clean).set i .no)
  | .rt e ρ => .rt e ((ρ.map Ent.clean).set i .no)
  | _ => .fail
def mTryAs (i : Nat) (C f : Str) (xs : List Str) (mb mh : List Ent → O) : List Ent → O := fun ρ => match mb ρ with
  | .err C' d ρ' => if C' = C then (if i < ρ'.length then O.out i (mh (ρ'.set i (.exc f d))) else .fail) else if xs.contains C' = true then .err C' d ρ' else .fail
  | o => o
theorem SS.tryAs {c : VC} {pin : List Nat} {σ0 : St} {W : WX} {K : PySem.W.Frag} {i : Nat} {C : Str} {xs : List Str} {tb : WX → TS} {ts : Addr → Value → Option Addr → TS} {mb mh : List Ent → O} {f : Str} (hi : i ∉ pin) (hf0 : c.ef C = f)
    (hx : PySem.W.exmOne K (.ref (c.ca.cl C)) (.ref (c.ca.cl C)) = some true) (hxs : ∀ C' ∈ xs, PySem.W.exmOne K (.ref (c.ca.cl C')) (.ref (c.ca.cl C)) = some false)
    (hb : ∀ W', SS ⟨c.base, pin, σ0⟩ W' (tb W') mb) (hh : ∀ a dd, SS ⟨c.exc a dd, pin, σ0⟩ noW (ts a (.ref (c.ca.cl C)) (some dd)) mh) :
    SS ⟨c.base, pin, σ0⟩ W (fun D σ H => tb (wAs K (.ref (c.ca.cl C)) i ts W D) D σ H) (mTryAs i C f xs mb mh) := by
  subst hf0
  refine ⟨fun M P Z H σ ρ w D mp b s pn hf => ?_⟩
  refine (hb _).go M P Z H σ ρ w D mp b s pn ?_
  unfold mTryAs at hf
  cases e : mb ρ with
  | nx ρ' => rw [e] at hf; exact hf
  | bk ρ' => rw [e] at hf; exact hf
  | ct ρ' => rw [e] at hf; exact hf
  | rt e' ρ' => rw [e] at hf; exact hf
  | fail => rw [e] at hf; exact hf
  | err C' d ρ' =>
    rw [e] at hf
    dsimp only at hf
    intro x vd σ' H' Z' w' z n b' hxd o s' pn'
    by_cases hC : C' = C
    · subst hC
      rw [if_pos rfl] at hf
      refine ⟨true, hx, fun _ a ha => ?_, fun q => nomatch q⟩
      by_cases hl : i < ρ'.length
      rotate_left
      · rw [if_neg hl] at hf; exact hf.elim
      rw [if_pos hl] at hf
      have s0 : Slots (c.exc a x).ca H' M Z' σ' ρ' w' := Slots.re (ca := c.base.ca) (ca' := (c.exc a x).ca) rfl (fun _ => rfl) s'
      obtain ⟨y, l, f, r, e1, e2, sl, kk⟩ := s0.split (List.getElem?_eq_getElem hl)
      have s1 := kk (x' := some (.ref a)) (f' := []) (fun _ _ _ q => q) (Ext.refl _) (.exc (f := c.ef C') (by simp) hxd (Ow.any (Ow.re (ca := c.base.ca) (ca' := (c.exc a x).ca) rfl o)))
      have b1 : Base P Z' H' (l ++ ([] ++ r)) := b'.cnt fun y => by rw [e2]; simp only [cnt_app, cnt_nil]; omega
      refine (hh a x).go M P Z' H' (σ'.set i (some (.ref a))) (ρ'.set i (.exc (c.ef C') d)) _ _ mp b1 s1 (pn'.set hi) ?_
      -- behind it
      have fin : ∀ {σ2 : St} {H2 Z2 : Hp} {ρ2 : List Ent} {w2 : List Addr}, Slots (c.exc a x).ca H2 M Z2 σ2 ρ2 w2 → ∃ w3, (∀ y, cnt y w3 ≤ cnt y w2) ∧ Slots c.base.ca H2 M Z2 (σ2.set i none) ((ρ2.map Ent.clean).set i .no) w3 := fun {σ2 H2 Z2 ρ2 w2} s2 => by
        have s3 : Slots c.base.ca H2 M Z2 σ2 (ρ2.map Ent.clean) w2 := Slots.clean (ca := (c.exc a x).ca) (ca' := c.base.ca) rfl s2
        cases eq : (ρ2.map Ent.clean)[i]? with
        | none =>
          have q1 := List.getElem?_eq_none_iff.mp (s3.non0 eq)
          have q2 := List.getElem?_eq_none_iff.mp eq
          rw [List.set_eq_of_length_le q1, List.set_eq_of_length_le q2]
          exact ⟨w2, fun _ => Nat.le_refl _, s3⟩
        | some en =>
          obtain ⟨y, l, f, r, e1, e2, sl, kk⟩ := s3.split eq
          exact ⟨_, fun y => by rw [e2]; simp only [cnt_app, cnt_nil]; omega, kk (x' := none) (f' := []) (fun _ _ _ q => q) (Ext.refl _) .no⟩
      have f2 := FinS.go z n hf
      cases em : mh (ρ'.set i (.exc (c.ef C') d)) with
      | fail => rw [em] at f2; exact f2
      | err C2 d2 ρ2 => rw [em] at f2; exact f2.elim
      | nx ρ2 =>
        rw [em] at f2
        intro σ2 H2 Z2 w2 z2 n2 b2 s2 pn2
        obtain ⟨w3, hc, s3⟩ := fin s2
        exact f2 (σ2.set i none) H2 Z2 w3 z2 n2 (b2.cnt hc) s3 (pn2.set hi)
      | bk ρ2 =>
        rw [em] at f2
        intro σ2 H2 Z2 w2 z2 n2 b2 s2 pn2
        obtain ⟨w3, hc, s3⟩ := fin s2
        exact f2 (σ2.set i none) H2 Z2 w3 z2 n2 (b2.cnt hc) s3 (pn2.set hi)
      | ct ρ2 =>
        rw [em] at f2
        intro σ2 H2 Z2 w2 z2 n2 b2 s2 pn2
        obtain ⟨w3, hc, s3⟩ := fin s2
        exact f2 (σ2.set i none) H2 Z2 w3 z2 n2 (b2.cnt hc) s3 (pn2.set hi)
      | rt e2 ρ2 =>
        rw [em] at f2
        intro v σ2 H2 Z2 fp w2 z2 n2 b2 ev s2 pn2
        obtain ⟨w3, hc, s3⟩ := fin s2
        exact f2 v (σ2.set i none) H2 Z2 fp w3 z2 n2 (b2.cnt fun y => by have := hc y; simp only [cnt_app]; omega) (EntV.re (ca := (c.exc a x).ca) (ca' := c.base.ca) rfl ev) s3 (pn2.set hi)
    · rw [if_neg hC] at hf
      by_cases hc : xs.contains C' = true
      · rw [if_pos hc] at hf
        refine ⟨false, hxs C' (by simpa using hc), (fun q => nomatch q), fun _ => ?_⟩
        exact hf x vd σ' H' Z' w' z n b' hxd o s' pn'
      · rw [if_neg hc] at hf
        exact hf.elim
/-! ### d.pop(k) -/
end Rm
/-! Rm, part VG: == with an empty dict; methods called by names. -/
namespace Rm
open PySem PySem.Spec L2
open PyProof.Rows hiding St
variable [Tb]
def rEqE : R2 := fun x y H Q => match x, y with
  | .ref a, .ref b => (match rdo H a, rdo H b with
    | some (.dK ka), some (.dK kb) => (ka = [] ∨ kb = []) ∧ Q (.bl (ka.length == kb.length)) H
    | _, _ => False)
  | _, _ => False
theorem opEqT {X : Cx} (hu : X.A.units + 64 < cLine) : OpR X (compareOp .Eq) (fun x y H Q => (rEqS false x y H Q ∨ rEqU x y H Q) ∨ rEqE x y H Q) := by
  intro pins s σ H x y v u Q I rx ry h
  rcases h with h | h
  · exact opEqS hu pins s σ H x y v u Q I rx ry h
  · unfold rEqE at h
    split at h
    · rename_i a b
      obtain rfl := (show v = Value.ref a from rx)
      obtain rfl := (show u = Value.ref b from ry)
      split at h
      · rename_i ka kb ea eb
        obtain ⟨_, sa, va, ra, da⟩ := dk_rd I.hok (rdo_rd ea)
        obtain ⟨_, sb, vb, rb, db⟩ := dk_rd I.hok (rdo_rd eb)
        have la : ka.length = va.length := Paired.length ra
        have lb : kb.length = vb.length := Paired.length rb
        refine PySem.W.rcP_dicts (r := true) sa sb da db (by omega) (fun e => ?_) _ _ ?_
        · have : va = [] := by
            rcases h.1 with q | q
            · subst q; exact List.length_eq_zero_iff.mp la.symm
            · subst q; exact List.length_eq_zero_iff.mp (by rw [e]; exact lb.symm)
          subst this
          exact .nil
        · rw [Bool.and_true, ← la, ← lb]
          exact ⟨.bl _, H, I, rfl, h.2⟩
      · exact h.elim
    · exact h.elim
def eqD (x y : T) : Option Bool := match x, y with
  | .dct _ ps, .dct _ qs => if (ps.isEmpty || qs.isEmpty) = true then some (ps.length == qs.length) else none
  | _, _ => none
def pEq2 : List T → Option Ent := fun ts => match ts with
  | [x, y] => (match eqT x y with
    | some k => oB k
    | none => (eqD x y).map fun k => .own (.bl k))
  | _ => none
theorem pr_eq2 {ca : Ks} : Prim ca (r2L fun x y H Q => (rEqS false x y H Q ∨ rEqU x y H Q) ∨ rEqE x y H Q) pEq2 := ⟨fun P Z H w vs ts Q b o h => by
  unfold pEq2 at h
  split at h
  · rename_i x y
    obtain ⟨v, g, u, f, rfl, h1, h2⟩ := o.i2
    cases e : eqT x y with
    | some k =>
      rw [e] at h
      have q := pr_eq.go P Z H w [v, u] [x, y] Q b (.cons h1 (.cons h2 .nil)) (by
        show Res ca P Z H w Q ((eqT x y).map fun k => .own (.bl k))
        rw [e]; exact h)
      exact Or.inl q
    | none =>
      rw [e] at h
      refine Or.inr ?_
      dsimp only at h
      unfold eqD at h
      split at h
      · rename_i ps qs
        split at h
        · rename_i q
          obtain ⟨a, ks, _, rfl, e1, ek, _⟩ := ow_dct b h1
          obtain ⟨a', ks', _, rfl, e2, ek', _⟩ := ow_dct b h2
          have l1 := congrArg List.length ek
          have l2 := congrArg List.length ek'
          rw [List.length_map, List.length_map] at l1 l2
          simp only [rEqE, e1, e2]
          refine ⟨?_, ?_⟩
          · simp only [Bool.or_eq_true, List.isEmpty_iff] at q
            rcases q with q | q
            · subst q; exact Or.inl (List.length_eq_zero_iff.mp l1)
            · subst q; exact Or.inr (List.length_eq_zero_iff.mp l2)
          · rw [l1, l2]
            exact h.now b (.own (.bl _))
        · exact h.elim
      · exact h.elim
  · exact h.elim⟩
/-! ### o.m(.., k = v) -/
/-- the keywords' values, in order -/
def mMethWK (i : Nat) (C mn : Str) (nk : Nat) (ks : List AK) (m : List Ent → R Ent) (ms : List Ent → R (List Ent)) : List Ent → R Ent := fun ρ => match ρ[i]? with
  | some (.own u) => if chkI C mn u = true then (ms ρ).bind fun es ρ1 => if es.length = nk then Ent.safe (runC (.io i :: ks) m (.no :: es) ρ1) else .fail else .fail
  | _ => .fail
end Rm
/-! Rm, part VH: small pieces. -/
namespace Rm
open PySem PySem.Spec L2
open PyProof.Rows hiding St
variable [Tb]
theorem nameE {X : Cx} {P : Program} {w : World} {x f : Str} {C : Addr} {base : Heap} (E : EDef P w X.K X.mg base x C f) (hg : Gl X x) (hd : (x == ("__debug__" : Str)) = false := by decide) : Names X x (.ref C) := by
  obtain ⟨fI, fd, y, hm, _⟩ := E.ex
  exact ⟨hg, hd, Or.inl hm⟩
def tTryAs (K : PySem.W.Frag) (c : Value) (i : Nat) (ts : Addr → Value → Option Addr → TS) (Wout : WX) (tb : WX → TS) : TS := fun D σ H => tb (wAs K c i ts Wout D) D σ H
section
variable {X : Cx} {x n : Str} {c : Value} {i : Nat} {body suite : List Stmt} {b₀ : Stmt} {np pos pos' : Pos} {tb : WX → TS} {ts : Addr → Value → Option Addr → TS} {Wout : WX}
theorem ps_tryA (hs : X.stack = X.env :: X.outer) (hf : X.env.frame = some X.env.locals) (hN : X.N.Nodup) (hi : X.N[i]? = some n) (hln : X.env.kindOf n = some .local) (hc : Names X x c) (tk : Takes X Wout)
    (hb : ∀ (W : WX) (pn : List (Addr × Obj)) (xe : Value → Shared → Prop), Takes (X.tr pn xe) W → PassesOwn (model X.prog X.w) X.A X.env xe → PSs (X.tr pn xe) body (tb W))
    (hsu : ∀ (a : Addr) (oe : Obj) (cls : Value) (d : Option Addr) (pn : List (Addr × Obj)), Zc cls d oe → (∃ vs, oe.data = .fields vs) → PSs (X.suite a ((a, oe) :: pn)) (b₀ :: suite) (ts a cls d)) :
    PS X (.Try body [.ExceptHandler (some (.Name x np)) (some n) (b₀ :: suite) pos'] [] [] pos) (tTryAs X.K c i ts Wout tb) := ps_try_as hs hf hN hi hln hc tk hb hsu
end
theorem SS.tryA {c : VC} {pin : List Nat} {σ0 : St} {W : WX} {K : PySem.W.Frag} {i : Nat} {C : Str} {xs : List Str} {tb : WX → TS} {ts : Addr → Value → Option Addr → TS} {mb mh : List Ent → O} {f : Str} (hi : i ∉ pin) (hf0 : c.ef C = f)
    (hx : PySem.W.exmOne K (.ref (c.ca.cl C)) (.ref (c.ca.cl C)) = some true) (hxs : ∀ C' ∈ xs, PySem.W.exmOne K (.ref (c.ca.cl C')) (.ref (c.ca.cl C)) = some false)
    (hb : ∀ W', SS ⟨c.base, pin, σ0⟩ W' (tb W') mb) (hh : ∀ a dd, SS ⟨c.exc a dd, pin, σ0⟩ noW (ts a (.ref (c.ca.cl C)) (some dd)) mh) :
    SS ⟨c.base, pin, σ0⟩ W (tTryAs K (.ref (c.ca.cl C)) i ts W tb) (mTryAs i C f xs mb mh) := SS.tryAs hi hf0 hx hxs hb hh
end Rm
/-! Rm, part VI: two names of one thing. -/
namespace Rm
open PySem PySem.Spec L2
open PyProof.Rows hiding St
variable [Tb]
theorem Pin.of {pin pin' : List Nat} {σ0 σ1 σ : St} (hp : ∀ i ∈ pin, i ∈ pin') (a : Pin pin σ0 σ1) (b : Pin pin' σ1 σ) : Pin pin σ0 σ := ⟨fun i q => (b.at_ i (hp i q)).trans (a.at_ i q), b.len.trans a.len⟩
theorem FinS.pin {c : VC} {pin pin' : List Nat} {σ0 σ1 : St} {W : WX} {M P Z : Hp} {D : Ends} {o : O} (hp : ∀ i ∈ pin, i ∈ pin') (a : Pin pin σ0 σ1) (h : FinS ⟨c, pin, σ0⟩ W M P Z D o) : FinS ⟨c, pin', σ1⟩ W M P Z D o := by
  cases o with
  | nx ρ => exact fun σ H' Z' w' z n b s p => h σ H' Z' w' z n b s (Pin.of hp a p)
  | bk ρ => exact fun σ H' Z' w' z n b s p => h σ H' Z' w' z n b s (Pin.of hp a p)
  | ct ρ => exact fun σ H' Z' w' z n b s p => h σ H' Z' w' z n b s (Pin.of hp a p)
  | rt e ρ => exact fun v σ H' Z' fp w' z n b ev s p => h v σ H' Z' fp w' z n b ev s (Pin.of hp a p)
  | err C d ρ => exact fun x vd σ H' Z' w' z n b e o s p => h x vd σ H' Z' w' z n b e o s (Pin.of hp a p)
  | fail => exact h
/-- a value, frozen -/
def mFz (m : List Ent → R Ent) : List Ent → R Ent := fun ρ => (m ρ).bind fun e ρ' => match e.fz with
  | some t => .ok (.own t) ρ'
  | none => .fail
theorem SV.fz {c : VC} {W : WX} {r : Bool} {te : TE} {m : List Ent → R Ent} (h : SV c W r te m) : SV c W r te (mFz m) := by
  refine ⟨fun M P Z H σ ρ w Q mp b s hf => ?_⟩
  refine h.go M P Z H σ ρ w _ mp b s ?_
  unfold mFz at hf
  cases e : m ρ with
  | fail => rw [e] at hf; exact hf
  | err C d ρ' => rw [e] at hf; exact hf
  | ok en ρ' =>
    rw [e] at hf
    dsimp only [R.bind] at hf
    intro v H1 Z1 fp w1 z1 n1 b1 ev s1 ro
    split at hf
    · rename_i tr q
      have o := ev.fz (Z' := fzZ fp H1 Z1) (fzZ_ext b1) (fun a y => fzZ_in a y) q
      have b2 := b1.fz
      have s2 := s1.mono (H' := H1) (fzZ_ext b1) (fun a q o y => y)
      exact hf v H1 _ [] w1 (z1.trans (fzZ_ext b1)) (n1.trans (fzZ_zn b1)) b2 (.own o) s2 ro
    · exact hf.elim
end Rm
/-! Rm, part W: what is wanted of a meaning, one step after another. -/
namespace Rm
open PySem PySem.Spec L2
open PyProof.Rows hiding St
abbrev EK := Str → T → List Ent → Prop
/-- an equation that simp may not take as rfl -/
theorem nr {α : Sort _} {a b : α} (h : a = b) : a = b := h
/-- it comes to Q, or raises what E says -/
def R.w {α : Type} (r : R α) (Q : α → List Ent → Prop) (E : EK) : Prop := match r with
  | .ok a ρ => Q a ρ
  | .err C d ρ => E C d ρ
  | .fail => False
structure OK where
  nx : List Ent → Prop
  rt : Ent → List Ent → Prop
  bk : List Ent → Prop
  ct : List Ent → Prop
  er : EK
def O.w (o : O) (D : OK) : Prop := match o with
  | .nx ρ => D.nx ρ
  | .rt e ρ => D.rt e ρ
  | .bk ρ => D.bk ρ
  | .ct ρ => D.ct ρ
  | .err C d ρ => D.er C d ρ
  | .fail => False
section
variable {α β : Type} {Q : α → List Ent → Prop} {E : EK} {D : OK} {ρ : List Ent}
theorem R.w_imp {r : R α} {Q' : α → List Ent → Prop} {E' : EK} (h : r.w Q E) (hq : ∀ a ρ, Q a ρ → Q' a ρ) (he : ∀ C d ρ, E C d ρ → E' C d ρ) : r.w Q' E' := by
  cases r with
  | ok a ρ => exact hq a ρ h
  | err C d ρ => exact he C d ρ h
  | fail => exact h
theorem O.w_imp {o : O} {D' : OK} (h : o.w D) (h1 : ∀ ρ, D.nx ρ → D'.nx ρ) (h2 : ∀ e ρ, D.rt e ρ → D'.rt e ρ) (h3 : ∀ ρ, D.bk ρ → D'.bk ρ) (h4 : ∀ ρ, D.ct ρ → D'.ct ρ) (h5 : ∀ C d ρ, D.er C d ρ → D'.er C d ρ) : o.w D' := by
  cases o with
  | nx ρ => exact h1 ρ h
  | rt e ρ => exact h2 e ρ h
  | bk ρ => exact h3 ρ h
  | ct ρ => exact h4 ρ h
  | err C d ρ => exact h5 C d ρ h
  | fail => exact h
theorem w_bind {r : R α} {k : α → List Ent → R β} {Q : β → List Ent → Prop} : (r.bind k).w Q E = r.w (fun a ρ => (k a ρ).w Q E) E := by cases r <;> rfl
theorem w_then {r : R α} {k : α → List Ent → O} : (r.then k).w D = r.w (fun a ρ => (k a ρ).w D) D.er := by cases r <;> rfl
theorem w_iteF {c : Prop} [Decidable c] {r : R α} : (if c then r else .fail).w Q E = (c ∧ r.w Q E) := by
  by_cases h : c
  · rw [if_pos h]; exact propext ⟨fun q => ⟨h, q⟩, fun q => q.2⟩
  · rw [if_neg h]; exact propext ⟨fun q => q.elim, fun q => h q.1⟩
theorem wo_iteF {c : Prop} [Decidable c] {o : O} : (if c then o else .fail).w D = (c ∧ o.w D) := by
  by_cases h : c
  · rw [if_pos h]; exact propext ⟨fun q => ⟨h, q⟩, fun q => q.2⟩
  · rw [if_neg h]; exact propext ⟨fun q => q.elim, fun q => h q.1⟩
theorem w_ok {a : α} : (R.ok a ρ).w Q E = Q a ρ := nr rfl
theorem w_err {C : Str} {d : T} : (R.err C d ρ : R α).w Q E = E C d ρ := nr rfl
theorem w_fail : (R.fail : R α).w Q E = False := nr rfl
theorem w_nx : (O.nx ρ).w D = D.nx ρ := nr rfl
theorem w_bk : (O.bk ρ).w D = D.bk ρ := nr rfl
theorem w_ct : (O.ct ρ).w D = D.ct ρ := nr rfl
theorem w_rt {e : Ent} : (O.rt e ρ).w D = D.rt e ρ := nr rfl
theorem w_oerr {C : Str} {d : T} : (O.err C d ρ).w D = D.er C d ρ := nr rfl
end
section
variable {Q : Ent → List Ent → Prop} {QA : List Ent → List Ent → Prop} {QB : Bool → List Ent → Prop} {E : EK} {D : OK} {ρ : List Ent} {m m1 m2 m3 : List Ent → R Ent} {ms : List Ent → R (List Ent)} {mt mt1 mt2 : List Ent → R Bool} {p p' : List T → Option Ent} {mb mb' : List Ent → O} {mp : List Ent → R (T × (T → T))}
/-- what an operation gives, used -/
def oW (o : Option Ent) (Q : Ent → Prop) : Prop := match o with
  | some e => Q e
  | none => False
theorem oW_some {e : Ent} {Q : Ent → Prop} : oW (some e) Q = Q e := nr rfl
theorem oW_ite {c : Prop} [Decidable c] {a : Option Ent} {Q : Ent → Prop} : oW (if c then a else none) Q = (c ∧ oW a Q) := by
  by_cases h : c
  · rw [if_pos h]; simp [h]
  · rw [if_neg h]; simp [h, oW]
/-- an entry, read -/
def rdW (e : Option Ent) (Q : Ent → Prop) : Prop := match e with
  | some (.own t) => Q (.vw t)
  | some (.vw t) => Q (.vw t)
  | _ => False
theorem rdW_own {t : T} {Q : Ent → Prop} : rdW (some (.own t)) Q = Q (.vw t) := nr rfl
theorem rdW_vw {t : T} {Q : Ent → Prop} : rdW (some (.vw t)) Q = Q (.vw t) := nr rfl
theorem w_name {i : Nat} : (mName i ρ).w Q E = rdW ρ[i]? fun e => Q e ρ := by
  unfold mName rdW
  split <;> simp_all [R.w]
theorem w_c {t : T} : (mC t ρ).w Q E = Q (.own t) ρ := nr rfl
theorem w_nil : (mNil ρ).w QA E = QA [] ρ := nr rfl
theorem w_cons {r : Bool} : (mCons r m ms ρ).w QA E = (m ρ).w (fun e ρ1 => (r || e.held) = true ∧ (ms ρ1).w (fun es ρ2 => QA (e :: es) ρ2) E) E := by
  unfold mCons
  rw [w_bind]
  congr 1
  funext e ρ1
  rw [w_iteF, w_bind]
  rfl
theorem w_prim : (mPrim p ms ρ).w Q E = (ms ρ).w (fun es ρ' => oW (p (es.map Ent.t)) fun e => Q e ρ') E := by
  unfold mPrim
  rw [w_bind]
  congr 1
  funext es ρ1
  cases p (es.map Ent.t) <;> rfl
theorem w_op {r2 : Bool} : (mOp p r2 m1 m2 ρ).w Q E = (m1 ρ).w (fun e ρ1 => (r2 || e.held) = true ∧ (m2 ρ1).w (fun e' ρ2 => oW (p [e.t, e'.t]) fun x => Q x ρ2) E) E := by
  unfold mOp
  simp only [w_prim, w_cons, w_nil, Bool.true_or, true_and, List.map_cons, List.map_nil]
theorem w_pure {b : Bool} : (mPure b ρ).w QB E = QB b ρ := nr rfl
theorem w_br {α : Type} {k1 k2 : List Ent → R α} {Q : α → List Ent → Prop} : (mBr mt k1 k2 ρ).w Q E = (mt ρ).w (fun k ρ1 => if k = true then (k1 ρ1).w Q E else (k2 ρ1).w Q E) E := by
  unfold mBr
  rw [w_bind]
  congr 1
  funext k ρ1
  cases k <;> rfl
/-- a bool, used -/
def bW (o : Option Bool) (Q : Bool → Prop) : Prop := match o with
  | some k => Q k
  | none => False
theorem bW_some {k : Bool} {Q : Bool → Prop} : bW (some k) Q = Q k := nr rfl
theorem w_test {f : T → Option Bool} : (mTest f m ρ).w QB E = (m ρ).w (fun e ρ1 => bW (f e.t) fun k => QB k ρ1) E := by
  unfold mTest
  rw [w_bind]
  congr 1
  funext e ρ1
  cases f e.t <;> rfl
theorem w_bool : (mBool m ρ).w QB E = (m ρ).w (fun e ρ1 => bW e.t.bool fun k => QB k ρ1) E := w_test
/-- a tree, used -/
def tW {α : Type} (o : Option α) (Q : α → Prop) : Prop := match o with
  | some t => Q t
  | none => False
theorem tW_some {α : Type} {t : α} {Q : α → Prop} : tW (some t) Q = Q t := nr rfl
theorem tW_ite {α : Type} {c : Prop} [Decidable c] {a : Option α} {Q : α → Prop} : tW (if c then a else none) Q = (c ∧ tW a Q) := by
  by_cases h : c
  · rw [if_pos h]; simp [h]
  · rw [if_neg h]; simp [h, tW]
theorem w_seqT {tp : Bool} : (mSeq tp ms ρ).w Q E = (ms ρ).w (fun es ρ' => tW (fzAll es) fun ts => ts.length ≤ sizeLine ∧ Q (.own (if tp then .tup ts else .lst true ts)) ρ') E := by
  unfold mSeq
  rw [w_bind]
  congr 1
  funext es ρ1
  cases fzAll es with
  | none => rfl
  | some ts => dsimp only [tW]; rw [w_iteF]; rfl
theorem w_lst : (mLst ms ρ).w Q E = (ms ρ).w (fun es ρ' => tW (keepAll es) fun ts => ts.length ≤ sizeLine ∧ Q (.own (.lst true ts)) ρ') E := by
  unfold mLst
  rw [w_bind]
  congr 1
  funext es ρ1
  cases keepAll es with
  | none => rfl
  | some ts => dsimp only [tW]; rw [w_iteF]; rfl
theorem w_chain {r2 : Bool} : (mChain p p' r2 m1 m2 m3 ρ).w Q E = (m1 ρ).w (fun e ρ1 => (r2 || e.held) = true ∧ (m2 ρ1).w (fun e' ρ2 => oW (p [e.t, e'.t]) fun x => bW (match x with | .own (.bl k) => some k | _ => none) fun k => if k = true then e'.held = true ∧ (m3 ρ2).w (fun e3 ρ3 => oW (p' [e'.t, e3.t]) fun y => Q y ρ3) E else Q (.own (.bl false)) ρ2) E) E := by
  unfold mChain
  simp only [w_bind, w_cons, w_nil, Bool.true_or, true_and]
  congr 1
  funext e ρ1
  congr 1
  congr 1
  funext e' ρ2
  cases p [e.t, e'.t] with
  | none => rfl
  | some x =>
    cases x with
    | own t =>
      cases t with
      | bl k =>
        cases k with
        | true =>
          simp only [oW, bW, if_true]
          rw [w_iteF, w_bind]
          congr 2
          funext e3 ρ3
          cases p' [e'.t, e3.t] <;> rfl
        | false => rfl
      | _ => rfl
    | _ => rfl
theorem w_part {Q : Option Int → List Ent → Prop} : (mPart m ρ).w Q E = (m ρ).w (fun e ρ1 => tW (match e.t with | .int i => some i | _ => none) fun i => Q (some i) ρ1) E := by
  unfold mPart
  rw [w_bind]
  congr 1
  funext e ρ1
  cases e.t <;> rfl
theorem w_pureO {o : Option Int} {Q : Option Int → List Ent → Prop} : (mPure o ρ).w Q E = Q o ρ := nr rfl
theorem w_slice {ml mh : List Ent → R (Option Int)} : (mSlice m ml mh ρ).w Q E = (m ρ).w (fun e ρ1 => (ml ρ1).w (fun l ρ2 => (mh ρ2).w (fun u ρ3 => oW (pSl l u [e.t]) fun x => Q x ρ3) E) E) E := by
  unfold mSlice
  simp only [w_bind]
  congr 1
  funext e ρ1
  congr 1
  funext l ρ2
  congr 1
  funext u ρ3
  cases pSl l u [e.t] <;> rfl
/-! statements -/
theorem w_thenS : (mThen mb mb' ρ).w D = (mb ρ).w { D with nx := fun ρ1 => (mb' ρ1).w D } := by
  unfold mThen
  cases mb ρ <;> rfl
theorem w_if : (mIf mt mb mb' ρ).w D = (mt ρ).w (fun k ρ1 => if k = true then (mb ρ1).w D else (mb' ρ1).w D) D.er := by
  unfold mIf
  rw [w_then]
  congr 1
  funext k ρ1
  cases k <;> rfl
theorem w_drop : (mDrop m ρ).w D = (m ρ).w (fun _ ρ1 => D.nx ρ1) D.er := by
  unfold mDrop
  rw [w_then]
  rfl
theorem w_ret : (mRet m ρ).w D = (m ρ).w (fun e ρ1 => D.rt e ρ1) D.er := by
  unfold mRet
  rw [w_then]
  rfl
theorem w_retN : (mRetN ρ).w D = D.rt (.own .non) ρ := nr rfl
/-- what is kept in a name -/
theorem w_set {i : Nat} : (mSet i m ρ).w D = (m ρ).w (fun e ρ1 => tW e.keep fun t => i < ρ1.length ∧ D.nx (ρ1.set i (.own t))) D.er := by
  unfold mSet
  rw [w_then]
  congr 1
  funext e ρ1
  cases e.keep with
  | none => rfl
  | some t => dsimp only [tW]; rw [wo_iteF]; rfl
/-- an entry, handed over -/
def mvW (e : Option Ent) (i : Nat) (ρ : List Ent) (Q : Ent → List Ent → Prop) : Prop := match e with
  | some (.own t) => Q (.own t) (ρ.set i .no)
  | some (.vw t) => Q (.vw t) ρ
  | _ => False
theorem mvW_own {t : T} {i : Nat} : mvW (some (.own t)) i ρ Q = Q (.own t) (ρ.set i .no) := nr rfl
theorem w_move {i : Nat} : (mMove i ρ).w Q E = mvW ρ[i]? i ρ Q := by
  unfold mMove mvW
  split <;> simp_all [R.w]
theorem w_raise {C : Str} : (mRaise C m ρ).w D = (m ρ).w (fun e ρ1 => tW e.fz fun t => D.er C t ρ1) D.er := by
  unfold mRaise
  rw [w_then]
  congr 1
  funext e ρ1
  cases e.fz <;> rfl
theorem w_asg {g : T → List Ent → Option (List Ent)} : (mAsg m g ρ).w D = (m ρ).w (fun e ρ1 => tW e.fz fun t => tW (g t ρ1) fun ρ2 => D.nx ρ2) D.er := by
  unfold mAsg
  rw [w_then]
  congr 1
  funext e ρ1
  cases e.fz with
  | none => rfl
  | some t => dsimp only [tW]; cases g t ρ1 <;> rfl
theorem w_asgN {i : Nat} : (mAsg m (gmName i) ρ).w D = (m ρ).w (fun e ρ1 => tW e.fz fun t => i < ρ1.length ∧ D.nx (ρ1.set i (.own t))) D.er := by
  rw [w_asg]
  congr 1
  funext e ρ1
  congr 1
  funext t
  unfold gmName
  rw [tW_ite]
  rfl
theorem w_parN {is : List Nat} : (mParN is ms ρ).w D = (ms ρ).w (fun es ρ1 => es.length ≤ sizeLine ∧ tW (setN is es ρ1) fun ρ2 => D.nx ρ2) D.er := by
  unfold mParN
  rw [w_then]
  congr 1
  funext es ρ1
  rw [wo_iteF]
  congr 1
  cases setN is es ρ1 <;> rfl
theorem w_par {i j : Nat} : (mPar i j ms ρ).w D = (ms ρ).w (fun es ρ1 => tW (match es.map Ent.keep with | [some t, some u] => some (t, u) | _ => none) fun tu => (i < ρ1.length ∧ j < ρ1.length) ∧ D.nx ((ρ1.set i (.own tu.1)).set j (.own tu.2))) D.er := by
  unfold mPar
  rw [w_then]
  congr 1
  funext es ρ1
  generalize es.map Ent.keep = l
  rcases l with _ | ⟨a, _ | ⟨b, _ | ⟨c, l⟩⟩⟩
  · rfl
  · cases a <;> rfl
  · cases a with
    | none => rfl
    | some t => cases b with
      | none => rfl
      | some u => dsimp only [tW]; rw [wo_iteF]; rfl
  · cases a <;> cases b <;> rfl
/-! places -/
theorem w_plName {i : Nat} {Q : (T × (T → T)) → List Ent → Prop} : (mPlName i ρ).w Q E = tW (match ρ[i]? with | some (.own t) => some t | _ => none) fun t => Q (t, id) ρ := by
  unfold mPlName
  split <;> simp_all [R.w, tW]
theorem w_plFld {C x : Str} {Q : (T × (T → T)) → List Ent → Prop} : (mPlFld C x mp ρ).w Q E = (mp ρ).w (fun uk ρ1 => tW (match uk.1 with | .ins true C' fs => if C' = C then (getK fs x).map fun u => (fs, u) else none | _ => none) fun p => Q (p.2, fun t => uk.2 (.ins true C (putT p.1 x t))) ρ1) E := by
  unfold mPlFld
  rw [w_bind]
  congr 1
  funext uk ρ1
  obtain ⟨u, k⟩ := uk
  cases u with
  | ins o C' fs =>
    cases o with
    | false => rfl
    | true =>
      dsimp only
      by_cases h : C' = C
      · simp only [if_pos h]
        cases getK fs x <;> rfl
      · simp only [if_neg h, w_fail, tW]
  | _ => rfl
theorem w_setF {i : Nat} {C f : Str} : (mSetF i C f mp m ρ).w D = (m ρ).w (fun e ρ1 => (mp ρ1).w (fun uk ρ2 => tW e.keep fun t => tW (setFld C f t uk.1) fun u => D.nx (ρ2.set i (.own (uk.2 u)))) D.er) D.er := by
  unfold mSetF
  rw [w_then]
  congr 1
  funext e ρ1
  rw [w_then]
  congr 1
  funext uk ρ2
  cases e.keep with
  | none => rfl
  | some t => dsimp only [tW]; cases setFld C f t uk.1 <;> rfl
theorem w_setI {i : Nat} {mi : List Ent → R Ent} : (mSetI i mp mi m ρ).w D = (m ρ).w (fun e ρ1 => (mp ρ1).w (fun uk ρ2 => (mi ρ2).w (fun ei _ => tW e.keep fun t => tW (setIx ei.t t uk.1) fun u => D.nx (ρ2.set i (.own (uk.2 u)))) D.er) D.er) D.er := by
  unfold mSetI
  rw [w_then]
  congr 1
  funext e ρ1
  rw [w_then]
  congr 1
  funext uk ρ2
  rw [w_then]
  congr 1
  funext ei _
  cases e.keep with
  | none => rfl
  | some t => dsimp only [tW]; cases setIx ei.t t uk.1 <;> rfl
theorem w_ddel {i : Nat} {mi : List Ent → R Ent} : (mDDel i mp mi ρ).w D = (mp ρ).w (fun uk ρ1 => (mi ρ1).w (fun e _ => tW (match uk.1, e.t.key with | .dct true ps, some k => some (ps, k) | _, _ => none) fun pk => (getK pk.1 pk.2).isSome = true ∧ D.nx (ρ1.set i (.own (uk.2 (.dct true (dropT pk.1 pk.2)))))) D.er) D.er := by
  unfold mDDel
  rw [w_then]
  congr 1
  funext uk ρ1
  rw [w_then]
  congr 1
  funext e _
  obtain ⟨u, k⟩ := uk
  dsimp only
  generalize e.t.key = kk
  cases u with
  | dct o ps =>
    cases o with
    | false => cases kk <;> rfl
    | true =>
      cases kk with
      | none => rfl
      | some k' => dsimp only [tW]; rw [wo_iteF]; rfl
  | _ => rfl
/-! calls -/
/-- a result that is kept -/
def sfW (Q : Ent → List Ent → Prop) : Ent → List Ent → Prop := fun e ρ => match e with
  | .own t => Q (.own t) ρ
  | .vw t => t.isF = true ∧ Q (.own t) ρ
  | _ => False
theorem w_safe {r : R Ent} : (Ent.safe r).w Q E = r.w (sfW Q) E := by
  cases r with
  | ok e ρ =>
    cases e with
    | vw t =>
      unfold Ent.safe
      dsimp only
      rw [w_iteF]; rfl
    | _ => rfl
  | _ => rfl
theorem w_run {ks : List AK} {es : List Ent} : (runC ks m es ρ).w Q E = tW (prep ks es ρ) fun p => (m p.1).w (fun e fin => Q e (back ks p.1 fin p.2)) (fun C d fin => E C d (back ks p.1 fin p.2)) := by
  unfold runC
  cases prep ks es ρ with
  | none => rfl
  | some p => obtain ⟨as, ρr⟩ := p; dsimp only [tW]; cases m as <;> rfl
theorem w_callW {ks : List AK} : (mCallW ks m ms ρ).w Q E = (ms ρ).w (fun es ρ1 => tW (prep ks es ρ1) fun p => (m p.1).w (fun e fin => sfW Q e (back ks p.1 fin p.2)) (fun C d fin => E C d (back ks p.1 fin p.2))) E := by
  unfold mCallW
  simp only [w_bind, w_safe, w_run]
theorem w_kNo {i : Nat} : (mKNo i ms ρ).w QA E = tW (match ρ[i]? with | some (.own t) => some t | _ => none) fun _ => (ms ρ).w (fun es ρ1 => QA (.no :: es) ρ1) E := by
  unfold mKNo
  split
  · rename_i t e
    simp only [e, tW, w_bind]
    rfl
  · rename_i h
    have : (match ρ[i]? with | some (.own t) => some t | _ => none : Option T) = none := by
      split
      · rename_i t e; exact absurd e (h t)
      · rfl
    first | (rw [this]; rfl) | rfl
theorem w_kLw {i : Nat} : (mKLw i ms ρ).w QA E = tW (match ρ[i]? with | some (.vw t) => some t | _ => none) fun _ => (ms ρ).w (fun es ρ1 => QA (.no :: es) ρ1) E := by
  unfold mKLw
  split
  · rename_i t e
    simp only [e, tW, w_bind]
    rfl
  · rename_i h
    have : (match ρ[i]? with | some (.vw t) => some t | _ => none : Option T) = none := by
      split
      · rename_i t e; exact absurd e (h t)
      · rfl
    first | (rw [this]; rfl) | rfl
theorem w_callR : (mCallR m ms ρ).w Q E = (ms ρ).w (fun es ρ1 => (m (es.map Ent.arg)).w (fun e _ => Q e ρ1) (fun C d _ => E C d ρ1)) E := by
  unfold mCallR
  rw [w_bind]
  congr 1
  funext es ρ1
  cases m (es.map Ent.arg) <;> rfl
theorem w_methR {C mn : Str} {ra : Bool} : (mMethR C mn ra m m1 ms ρ).w Q E = (m1 ρ).w (fun e ρ0 => (chkI C mn e.t && (ra || e.held)) = true ∧ (ms ρ0).w (fun es ρ1 => (m ((e :: es).map Ent.arg)).w (fun e _ => Q e ρ1) (fun C d _ => E C d ρ1)) E) E := by
  unfold mMethR
  rw [w_bind]
  congr 1
  funext e ρ0
  rw [w_iteF, w_bind]
  congr 2
  funext es ρ1
  cases m ((e :: es).map Ent.arg) <;> rfl
theorem w_methW {i : Nat} {C mn : Str} {ks : List AK} : (mMethW i C mn ks m ms ρ).w Q E = tW (match ρ[i]? with | some (.own t) => some t | _ => none) fun u => chkI C mn u = true ∧ (ms ρ).w (fun es ρ1 => tW (prep (.io i :: ks) (.no :: es) ρ1) fun p => (m p.1).w (fun e fin => sfW Q e (back (.io i :: ks) p.1 fin p.2)) (fun C d fin => E C d (back (.io i :: ks) p.1 fin p.2))) E := by
  unfold mMethW
  split
  · rename_i u e
    simp only [e, tW]
    rw [w_iteF, w_bind]
    simp only [w_safe, w_run, tW]
  · rename_i h
    have : (match ρ[i]? with | some (.own t) => some t | _ => none : Option T) = none := by
      split
      · rename_i t e; exact absurd e (h t)
      · rfl
    first | (rw [this]; rfl) | rfl
theorem w_methWK {i nk : Nat} {C mn : Str} {ks : List AK} : (mMethWK i C mn nk ks m ms ρ).w Q E = tW (match ρ[i]? with | some (.own t) => some t | _ => none) fun u => chkI C mn u = true ∧ (ms ρ).w (fun es ρ1 => es.length = nk ∧ tW (prep (.io i :: ks) (.no :: es) ρ1) fun p => (m p.1).w (fun e fin => sfW Q e (back (.io i :: ks) p.1 fin p.2)) (fun C d fin => E C d (back (.io i :: ks) p.1 fin p.2))) E := by
  unfold mMethWK
  split
  · rename_i u e
    simp only [e, tW]
    rw [w_iteF, w_bind]
    simp only [w_iteF, w_safe, w_run, tW]
  · rename_i h
    have : (match ρ[i]? with | some (.own t) => some t | _ => none : Option T) = none := by
      split
      · rename_i t e; exact absurd e (h t)
      · rfl
    first | (rw [this]; rfl) | rfl
theorem w_def {bs : List Bool} {k : Nat} : (mDef bs k mb ρ).w Q E = (ρ.length = bs.length ∧ (mb (ρ ++ List.replicate k .no)).w ⟨fun ρ' => Q (.own .non) (finP bs ρ'), fun e ρ' => Q e (finP bs ρ'), fun _ => False, fun _ => False, fun C d ρ' => E C d (finP bs ρ')⟩) := by
  unfold mDef
  rw [w_iteF]
  congr 1
  cases mb (ρ ++ List.replicate k .no) <;> rfl
end
theorem t_own {t : T} : (Ent.own t).t = t := rfl
theorem t_vw {t : T} : (Ent.vw t).t = t := rfl
theorem h_own {t : T} : (Ent.own t).held = true := rfl
theorem keep_own {t : T} : (Ent.own t).keep = some t := rfl
theorem fz_own {t : T} : (Ent.own t).fz = some t.frz := rfl
theorem getK_hd {κ α : Type} [DecidableEq κ] {k : κ} {v : α} {r : List (κ × α)} : getK ((k, v) :: r) k = some v := by rw [getK_cons, if_pos rfl]
theorem getK_tl {κ α : Type} [DecidableEq κ] {k k' : κ} {v : α} {r : List (κ × α)} (h : ¬ k' = k) : getK ((k', v) :: r) k = getK r k := by rw [getK_cons, if_neg h]
theorem ite2 {c : Prop} [Decidable c] {a b : Prop} (h1 : c → a) (h2 : ¬ c → b) : if c then a else b := by
  by_cases h : c
  · rw [if_pos h]; exact h1 h
  · rw [if_neg h]; exact h2 h
/-- no error may come -/
abbrev noE : EK := fun _ _ _ => False
theorem forM_w {g : T → List Ent → Option (List Ent)} {mb : List Ent → O} {D : OK} (I : List T → List Ent → Prop)
    (h0 : ∀ ρ, I [] ρ → D.nx ρ)
    (hs : ∀ t ts ρ, I (t :: ts) ρ → tW (g t ρ) fun ρ1 => (mb ρ1).w ⟨I ts, D.rt, D.nx, I ts, D.er⟩) :
    ∀ (ts : List T) (ρ : List Ent), I ts ρ → (forM g mb ts ρ).w D
  | [], ρ, h => h0 ρ h
  | t :: ts, ρ, h => by
    have q := hs t ts ρ h
    unfold forM
    cases e1 : g t ρ with
    | none => rw [e1] at q; exact q.elim
    | some ρ1 =>
      rw [e1] at q
      dsimp only [tW] at q ⊢
      cases e2 : mb ρ1 with
      | nx ρ2 => rw [e2] at q; exact forM_w I h0 hs ts ρ2 q
      | ct ρ2 => rw [e2] at q; exact forM_w I h0 hs ts ρ2 q
      | bk ρ2 => rw [e2] at q; exact q
      | rt e ρ2 => rw [e2] at q; exact q
      | err C d ρ2 => rw [e2] at q; exact q
      | fail => rw [e2] at q; exact q.elim
theorem w_for {mi : List Ent → R (List T)} {g : T → List Ent → Option (List Ent)} {mb : List Ent → O} {ρ : List Ent} {D : OK} : (mFor mi g mb ρ).w D = (mi ρ).w (fun ts ρ1 => (forM g mb ts ρ1).w D) D.er := by
  unfold mFor
  rw [w_then]
theorem w_range1 {me : List Ent → R Ent} {ρ : List Ent} {Q : List T → List Ent → Prop} {E : EK} : (mRange1 me ρ).w Q E = (me ρ).w (fun e ρ' => tW (match e.t with | .int j => some j | _ => none) fun j => okR j = true ∧ Q (rangeT 0 j.toNat) ρ') E := by
  unfold mRange1
  rw [w_bind]
  congr 1
  funext e ρ'
  cases e.t with
  | int j => dsimp only [tW]; rw [w_iteF]; rfl
  | _ => rfl
theorem w_itV {m : List Ent → R Ent} {ρ : List Ent} {Q : List T → List Ent → Prop} {E : EK} : (mItV m ρ).w Q E = (m ρ).w (fun e ρ' => tW e.fz fun t => tW t.items fun ts => Q ts ρ') E := by
  unfold mItV
  rw [w_bind]
  congr 1
  funext e ρ'
  cases e.fz with
  | none => rfl
  | some t => dsimp only [tW]; cases t.items <;> rfl
theorem T.isFA_mem : ∀ {ts : List T} {u : T}, T.isFA ts = true → u ∈ ts → u.isF = true
  | t :: ts, u, h, hu => by
    rw [T.isFA, Bool.and_eq_true] at h
    rcases List.mem_cons.mp hu with rfl | q
    · exact h.1
    · exact T.isFA_mem h.2 q
section
variable {ρ : List Ent} {E : EK} {Q : Ent → List Ent → Prop} {QD : List (Key × Ent) → List Ent → Prop} {mk mv : List Ent → R Ent} {mr : List Ent → R (List (Key × Ent))}
theorem w_dNil : (mDNil ρ).w QD E = QD [] ρ := nr rfl
theorem w_dCons : (mDCons mk mv mr ρ).w QD E = (mk ρ).w (fun ek ρ1 => tW ek.t.key fun k => (mv ρ1).w (fun e ρ2 => e.held = true ∧ (mr ρ2).w (fun es ρ3 => QD ((k, e) :: es) ρ3) E) E) E := by
  unfold mDCons
  rw [w_bind]
  congr 1
  funext ek ρ1
  cases ek.t.key with
  | none => rfl
  | some k =>
    dsimp only [tW]
    rw [w_bind]
    congr 1
    funext e ρ2
    rw [w_iteF, w_bind]
    rfl
theorem w_disp : (mDisp mr ρ).w Q E = (mr ρ).w (fun es ρ' => tW (keepP es) fun ps => ((ps.map (·.1)).Nodup ∧ ps.length ≤ 15) ∧ Q (.own (.dct true ps)) ρ') E := by
  unfold mDisp
  rw [w_bind]
  congr 1
  funext es ρ'
  cases keepP es with
  | none => rfl
  | some ps => dsimp only [tW]; rw [w_iteF]; rfl
end
theorem O.w_nx {o : O} {I : List Ent → Prop} {D : OK} (h : o.w ⟨I, fun _ _ => False, fun _ => False, fun _ => False, noE⟩) (hk : ∀ ρ, I ρ → D.nx ρ) : o.w D := O.w_imp h hk (fun _ _ q => q.elim) (fun _ q => q.elim) (fun _ q => q.elim) (fun _ _ _ q => q.elim)
/-- a loop whose turns only go on -/
theorem forM_n {g : T → List Ent → Option (List Ent)} {mb : List Ent → O} {D : OK} (I : List T → List Ent → Prop)
    (h0 : ∀ ρ, I [] ρ → D.nx ρ)
    (hs : ∀ t ts ρ, I (t :: ts) ρ → tW (g t ρ) fun ρ1 => (mb ρ1).w ⟨I ts, fun _ _ => False, fun _ => False, fun _ => False, noE⟩)
    (ts : List T) (ρ : List Ent) (h : I ts ρ) : (forM g mb ts ρ).w D := forM_w I h0 (fun t ts ρ h => by
  have := hs t ts ρ h
  cases e : g t ρ with
  | none => rw [e] at this; exact this.elim
  | some ρ1 => rw [e] at this; exact O.w_nx this fun _ q => q) ts ρ h
section
variable {ρ : List Ent} {E : EK} {D : OK} {Q : Ent → List Ent → Prop} {m me mi : List Ent → R Ent} {mt : List Ent → R Bool} {m1 m2 : List Ent → O} {mp : List Ent → R (T × (T → T))}
theorem w_fz : (mFz m ρ).w Q E = (m ρ).w (fun e ρ' => tW e.fz fun t => Q (.own t) ρ') E := by
  unfold mFz
  rw [w_bind]
  congr 1
  funext e ρ'
  cases e.fz <;> rfl
end
end Rm
/-! Rm, part VJ: a law's end by its meaning; a method by keywords; what the head tells of methods. -/
namespace Rm
open PySem PySem.Spec L2
open PyProof.Rows hiding St
variable [Tb]
/-- a list as an object -/
def isLst (o : Obj) : Bool := match o.cls, o.data with
  | .type n, .seq _ _ => decide (n = "list")
  | _, _ => false
/-- no list stands among these -/
def noLst (K : PySem.W.Frag) : Bool := K.all fun p => !isLst p.2
theorem noLst_no {K : PySem.W.Frag} (h : noLst K = true) {a : Addr} {o : Obj} {its : Array Value} {n : Nat} (l : K.lookup a = some o) (c : o.cls = .type "list") (d : o.data = .seq its n) : False := by
  have hm : ∀ K' : PySem.W.Frag, K'.lookup a = some o → ∃ b, (b, o) ∈ K' := fun K' => by
    induction K' with
    | nil => intro z; exact nomatch z
    | cons p r ih =>
      intro z
      rw [List.lookup_cons] at z
      split at z
      · injection z with z
        subst z
        exact ⟨p.1, List.mem_cons_self⟩
      · obtain ⟨b, hb⟩ := ih z
        exact ⟨b, List.mem_cons_of_mem _ hb⟩
  obtain ⟨b, hb⟩ := hm K l
  have := List.all_eq_true.mp h _ hb
  simp [isLst, c, d] at this
theorem ints_own {ca : Ks} {H Z : Hp} : ∀ ns : List Int, OwA ca H Z (ns.map V.int) (ns.map T.int) []
  | [] => .nil
  | n :: ns => .cons (f := []) (g := []) (.int n) (ints_own ns)
/-- the script alone -/
def only (a : Addr) (H : Hp) : Hp := fun b => if b = a then H b else none
theorem endVT {c : VC} {m : List Ent → R Ent} {K : PySem.W.Frag} {H : Hp} {a : Addr} {ns : List Int} (hT : LamX.Tabs Tb.T H) (hn : noLst K = true) (hS : SqL K H a (ns.map V.int))
    (h : (m [.own (.scr (ns.map T.int))]).w (fun e _ => e = .own (.bl true)) noE) : spV c 1 m [.ref a] H (fun v _ => v = .bl true) L2.E0 := by
  have hr : rdo H a = some (.lst (ns.map V.int)) := by
    rcases hS with hS | ⟨o, its, n, l, c1, _, d1, _⟩
    · rcases hS with e | ⟨o, e⟩
      · exact rdo_of e fun _ _ z => nomatch z
      · unfold rdo; rw [e]
    · exact (noLst_no hn l c1 d1).elim
  have xo : Ext (only a H) H := fun b o e => by
    unfold only at e
    split at e
    · exact e
    · cases e
  have hz : rdo (only a H) a = some (.lst (ns.map V.int)) := by
    unfold rdo only at *
    rw [if_pos rfl]; exact hr
  refine ⟨rfl, only a H, [], [.own (.scr (ns.map T.int))], ⟨xo, (fun a q => nomatch q), fun b o h => (out_some h).2, (fun a q => nomatch q), List.nodup_nil, (fun a q => nomatch q), ⟨fun q => out_not q, fun b ps e => ?_, hT⟩⟩, .cons (f := []) (g := []) (.own (.scr hz (ints_own ns))) .nil, ?_⟩
  · have e2 : b = a := by
      unfold only at e
      split at e
      · rename_i q; exact q
      · cases e
    subst e2
    have := xo _ _ e
    unfold rdo at hr
    rw [this] at hr
    cases hr
  · cases e : m [.own (.scr (ns.map T.int))] with
    | fail => rw [e] at h; exact h.elim
    | err C d r => rw [e] at h; exact h.elim
    | ok en r =>
      rw [e] at h
      obtain rfl : en = .own (.bl true) := h
      intro v H' Z' fp w' _ _ _ ev _
      cases ev with
      | own o => exact ow_bl o
theorem endV {c : VC} {m : List Ent → R Ent} {K : PySem.W.Frag} {H : Hp} {a : Addr} {ns : List Int} (hn : noLst K = true) (hS : SqL K H a (ns.map V.int))
    (h : (m [.own (.scr (ns.map T.int))]).w (fun e _ => e = .own (.bl true)) noE) : spV0 c 1 m [.ref a] H (fun v _ => v = .bl true) L2.E0 := @endVT Tb.none c m K H a ns (fun _ q => nomatch q) hn hS h
section
variable {P : Program} {w : World} {K : PySem.W.Frag} {mg : Str → Option Value} {base h : Heap} {x m qual : Str} {st : Stmt} {C f0 : Addr} {fd0 fd : FuncData} {ps ks : List Str} {k n : Nat} {sp : Sp}
/-- a method, told by the head -/
theorem atM_of (hc : (He.Fa.cls x).ok K = true) (hm : (He.Fa.meth x m).ok K = true) (F : FunD K m qual (defArgs st) (defBody st) (defScope st) [] [] (He.fAd K (x, some m)) fd)
    (b : ∀ (kV doc pm : Value) (an : Option Addr) (cdv ct : Value) (us : List Value), us.length = ps.length → bindArgs (PySem.W.fnOf m qual (defArgs st) (defBody st) (defScope st) .none kV doc pm an cdv ct) ⟨us, []⟩ = pure (ps.zip us)) : AtM K (He.ga K x) m m qual st ps (He.fAd K (x, some m)) fd :=
  ⟨F, He.cls_ok hc, He.meth_ok hm, FunD.bindsN F b⟩
/-- an `__init__`, told by the head -/
theorem atI_of (X : K.In h) (G : h.Ns mainGlobals mg) (hg : (He.Fa.glo x).ok K = true) (hc : (He.Fa.cls x).ok K = true) (hm : (He.Fa.mkr x).ok K = true) (F : FunD K "__init__" qual (defArgs st) (defBody st) (defScope st) [] [] (He.fAd K (x, some "__init__")) fd)
    (b : ∀ (kV doc pm : Value) (an : Option Addr) (cdv ct : Value) (us : List Value), us.length = ps.length → bindArgs (PySem.W.fnOf "__init__" qual (defArgs st) (defBody st) (defScope st) .none kV doc pm an cdv ct) ⟨us, []⟩ = pure (ps.zip us)) : AtI K mg x (He.ga K x) "__init__" qual st ps (He.fAd K (x, some "__init__")) fd :=
  ⟨F, He.glo_ok X G hg, He.cls_ok hc, He.mkr_ok hm, FunD.bindsN F b⟩
end
end Rm
/-! Rm, part VK: o.f += n; walking an own place (it is frozen); enumerate. -/
namespace Rm
open PySem PySem.Spec L2
open PyProof.Rows hiding St
variable [Tb]
/-! ### reading a thing that is only looked at: it stands still -/
/-- a path from a name that is looked at -/
structure SPv (c : VC) (t : TE) (m : List Ent → Option T) : Prop where
  go : ∀ (M P Z H : Hp) (σ : St) (ρ : List Ent) (w : List Addr) (Q : VK), Ext M P → Base P Z H w → Slots c.ca H M Z σ ρ w → (match m ρ with
    | some u => ∀ v g, Ow c.ca M Z v u g → Q v H
    | none => False) → t σ H Q
def mvName (i : Nat) : List Ent → Option T := fun ρ => match ρ[i]? with
  | some (.vw t) => some t
  | some (.own t) => if t.isF = true then some t else none
  | _ => none
section
variable {c : VC} {t : TE} {m : List Ent → Option T}
theorem SPv.name (i : Nat) : SPv c (tV i) (mvName i) := by
  refine ⟨fun M P Z H σ ρ w Q mp b s hf => ?_⟩
  unfold mvName at hf
  unfold tV
  split at hf
  · rename_i u eu
    split at eu
    · rename_i t' e
      cases eu
      obtain ⟨x, l, f, r, e1, e2, sl, _⟩ := s.split e
      cases sl with
      | vw h =>
        rw [e1]
        exact hf _ _ h
    · rename_i t' e
      split at eu
      · rename_i q
        cases eu
        obtain ⟨x, l, f, r, e1, e2, sl, _⟩ := s.split e
        cases sl with
        | own h =>
          rw [e1]
          obtain rfl := h.nof q
          exact hf _ _ h.any
      · cases eu
    · cases eu
  · exact hf.elim
end
end Rm
/-! Rm, part VL: C(k = v); xs.remove(k) of whole numbers; steps of the rules of VK. -/
namespace Rm
open PySem PySem.Spec L2
open PyProof.Rows hiding St
variable [Tb]
/-! ### C(k = v, ..) -/
/-- as many as the keywords -/
def tLen (nk : Nat) (t : TA) : TA := fun σ H Q => t σ H fun zs H1 => zs.length = nk ∧ Q zs H1
def mLen (nk : Nat) (ms : List Ent → R (List Ent)) : List Ent → R (List Ent) := fun ρ => (ms ρ).bind fun es ρ1 => if es.length = nk then .ok es ρ1 else .fail
section
variable {c : VC} {W : WX} {ta : TA} {ms : List Ent → R (List Ent)} {ks : List AK}
theorem SK.len {nk : Nat} (h : SK c W ks ta ms) : SK c W ks (tLen nk ta) (mLen nk ms) := by
  refine ⟨fun M P Z H σ ρ w Q mp b s hf => ?_⟩
  unfold tLen
  refine h.go M P Z H σ ρ w _ mp b s ?_
  unfold mLen at hf
  cases e : ms ρ with
  | fail => rw [e] at hf; exact hf
  | err C d ρ' => rw [e] at hf; exact hf
  | ok es ρ1 =>
    rw [e] at hf
    dsimp only [R.bind] at hf
    by_cases q : es.length = nk
    · rw [if_pos q] at hf
      intro vs H1 Z1 fp w1 z1 n1 b1 ev s1
      exact ⟨ev.length.trans q, hf vs H1 Z1 fp w1 z1 n1 b1 ev s1⟩
    · rw [if_neg q] at hf
      exact hf.elim
end
/-! ### xs.remove(k) -/
/-! ### steps -/
end Rm
/-! Rm, part VM: a method by keywords, that only reads. -/
namespace Rm
open PySem PySem.Spec L2
open PyProof.Rows hiding St
variable [Tb]
def tLen1 (nk : Nat) (t : TA) : TA := fun σ H Q => t σ H fun zs H1 => (1 = 1 ∧ zs.length = nk) ∧ Q zs H1
theorem EntVs.len {ca : Ks} {H Z : Hp} : ∀ {vs : List V} {es : List Ent} {fp : List Addr}, EntVs ca H Z vs es fp → vs.length = es.length
  | _, _, _, .nil => rfl
  | _, _, _, .cons _ A => by rw [List.length_cons, List.length_cons, EntVs.len A]
section
variable {c : VC} {W : WX} {r ra : Bool} {ta : TA} {t1 : TE} {m1 : List Ent → R Ent} {ms : List Ent → R (List Ent)}
theorem SA.len {nk : Nat} (h : SA c W r ta ms) : SA c W r (tLen1 nk ta) (mLen nk ms) := by
  refine ⟨fun M P Z H σ ρ w Q mp b s hf => ?_⟩
  unfold tLen1
  refine h.go M P Z H σ ρ w _ mp b s ?_
  unfold mLen at hf
  cases e : ms ρ with
  | fail => rw [e] at hf; exact hf
  | err C d ρ' => rw [e] at hf; exact hf
  | ok es ρ1 =>
    rw [e] at hf
    dsimp only [R.bind] at hf
    by_cases q : es.length = nk
    · rw [if_pos q] at hf
      intro vs H1 Z1 fp w1 z1 n1 b1 ev s1 ro
      exact ⟨⟨rfl, (EntVs.len ev).trans q⟩, hf vs H1 Z1 fp w1 z1 n1 b1 ev s1 ro⟩
    · rw [if_neg q] at hf
      exact hf.elim
end
end Rm
/-! Rm, part VN: an own thing that is only looked at for a while. -/
namespace Rm
open PySem PySem.Spec L2
open PyProof.Rows hiding St
variable [Tb]
def restE : Ent → Ent → Ent
  | _, .own t => .own t
  | .vw t, _ => .vw t
  | .exc f t, _ => .exc f t
  | _, _ => .no
/-- what is looked at stays as it was ahead -/
def rest : List Ent → List Ent → List Ent
  | e :: ρ, e2 :: ρ2 => restE e e2 :: rest ρ ρ2
  | _, _ => []
end Rm
/-! Rm, part VP: properties. -/
namespace Rm
open PySem PySem.Spec L2
open PyProof.Rows hiding St
variable [Tb]
section
variable (P : Program) (w : World) (K : PySem.W.Frag) (mg : Str → Option Value) (base : Heap)
/-- the property f of the class at C -/
structure PDef (C : Addr) (f : Str) (k : Nat) (sp : Sp) : Prop where
  ex : ∃ (p g : Addr) (fd : FuncData), Cls K C ∧ PropOf K C f p g ∧ Binds K fd ["self"] [] ∧ FnOk P w K mg base (L2.CX P w) k g fd ["self"] sp
end
/-- o.f, a property -/
def rProp (C : Addr) (sp : Sp) : V → Hp → VK → Prop := fun x H Q => ∃ a dx fs, x = .ref a ∧ H a = some (.ins C dx fs) ∧ sp [.ref a] H Q L2.E0
section
variable {X : Cx} {k : Nat} {C : Addr} {f : Str} {sp : Sp} {o : Expr} {pos : Pos} {to : TE}
theorem pe_p (D : PDef X.prog X.w X.K X.mg X.base C f k sp) (hr : Room (k + 1) X.A) (ho : PE X o to) (hab : attributeBase o f X.env (eval o X.env) = eval o X.env := by rfl) : PE X (.Attribute o f pos) (tUn (rProp C sp) to) := by
  obtain ⟨p, g, fd, c, hp, hb, F⟩ := D.ex
  refine PE.imp (pe_prop ho c hp F hr hb (dvs := []) .nil (E := L2.E0) (fun pins σ H s e s' _ h => (cx_none h).elim) hab) fun σ H Q h => ?_
  exact h
end
def pProp (C : Str) (m : List Ent → R Ent) : List T → Option Ent := fun ts => match ts with
  | [t] => if isC C t = true then (match m [argT t] with
    | .ok e _ => if e.t.isF = true then some (.own e.t) else none
    | _ => none) else none
  | _ => none
section
variable {c : VC} {m : List Ent → R Ent}
theorem pr_prop (C : Str) (m : List Ent → R Ent) (hm : ∀ ρ, ρ.length ≠ 1 → m ρ = .fail) : Prim c.ca (r1L (rProp (c.ca.cl C) (spV0 c 1 m))) (pProp C m) := ⟨fun P Z H w vs ts Q b o h => by
  unfold pProp at h
  split at h
  rotate_left
  · exact h.elim
  rename_i t
  split at h
  rotate_left
  · exact h.elim
  rename_i hc
  obtain ⟨v, g, rfl, h1⟩ := o.i1
  obtain ⟨a, dx, fs, rfl, ea⟩ := isC_at b h1 hc
  refine ⟨a, dx, fs, rfl, ea, spV_prim hm b o ?_⟩
  show (match m [argT t] with | .ok e _ => _ | _ => False)
  cases e : m [argT t] with
  | fail => rw [e] at h; exact h.elim
  | err C d ρ => rw [e] at h; exact h.elim
  | ok en ρ =>
    rw [e] at h
    intro v H' Z' f x z n b' ev
    obtain ⟨g', o'⟩ := ev.ow
    dsimp only at h
    split at h
    · rename_i q
      obtain rfl := o'.nof q
      exact h _ H' Z' [] x z n b'.drop (.own o')
    · exact h.elim⟩
theorem SV.prop {W : WX} {r : Bool} {to : TE} {mo : List Ent → R Ent} (C : Str) (hm : ∀ ρ, ρ.length ≠ 1 → m ρ = .fail) (h : SV c W r to mo) : SV c W r (tUn (rProp (c.ca.cl C) (spV0 c 1 m)) to) (mPrim (pProp C m) (mCons true mo mNil)) := SV.un (pr_prop C m hm) h
end
end Rm
/-! Rm, part VQ: properties, told by the head. -/
namespace Rm
open PySem PySem.Spec L2
open PyProof.Rows hiding St
variable [Tb]
/-- a property f of the class x of the text: its getter -/
structure PropD where
  x : Str
  f : Str
  qual : Str
  st : Stmt
  /-- a static method (else a property) -/
  sm : Bool
def PropD.p (K : PySem.W.Frag) (d : PropD) : Addr := He.ma K (He.ga K d.x) d.f
def PropD.g (K : PySem.W.Frag) (d : PropD) : Addr := match PySem.W.recIn K (d.p K) (if d.sm = true then "staticmethod" else "property") with
  | some (.ref g :: _) => g
  | _ => 0
def PropD.obs (K : PySem.W.Frag) (d : PropD) : He.FnW := match K.lookup (d.g K) with
  | some ⟨_, _, .func fd, _⟩ => some (fd.name, fd.qualname, fd.params, fd.body, fd.scope, fd.globals, fd.closure, fd.builtins)
  | _ => none
def PropD.val (d : PropD) : He.FnW := some (d.f, d.qual, defArgs d.st, .stmts (defBody d.st), defScope d.st, mainGlobals, [], builtinsNs)
def PropD.okP (K : PySem.W.Frag) (d : PropD) : Bool :=
  (He.eqO (PySem.W.findIn K (.ref (He.ga K d.x)) d.f) (some (some (.ref (d.p K)))) && He.eqO (PySem.W.specialIn K (.ref (d.p K)) "__get__") (some (some (.builtin "property.__get__")))) &&
  (decide (PySem.W.takesIn K (.ref (d.p K)) = some true) && (match PySem.W.recIn K (d.p K) "property" with | some (.ref _ :: _) => true | _ => false))
def PropD.okS (K : PySem.W.Frag) (d : PropD) : Bool :=
  (match PySem.W.findCls K (.ref (He.ga K d.x)) (.type "type") d.f with
    | some (.get (.builtin g) (.ref p) .none (.ref D)) => decide (g = "staticmethod.__get__") && (decide (p = d.p K) && decide (D = He.ga K d.x))
    | _ => false) && ((match PySem.W.recIn K (d.p K) "staticmethod" with | some (.ref _ :: _) => true | _ => false) &&
  (PySem.W.readsIn K (He.ga K d.x) (.type "type") && He.eqO (PySem.W.specialIn K (.ref (He.ga K d.x)) "__getattribute__") (some (some (.builtin "type.__getattribute__")))))
def PropD.ok (K : PySem.W.Frag) (d : PropD) : Bool :=
  (if d.sm = true then d.okS K else d.okP K) && (PySem.W.keepIn K (.ref (d.g K)) && (match K.lookup (d.g K) with
    | some ⟨_, _, .func fd, _⟩ => PySem.W.codeIn K fd.code d.qual && (He.dflB K fd.defaults [] && He.kwdB K fd.kwdefaults [])
    | _ => false))
theorem PropD.fn {K : PySem.W.Frag} {d : PropD} (h : d.ok K = true) (o : d.obs K = d.val) : ∃ fd, FunD K d.f d.qual (defArgs d.st) (defBody d.st) (defScope d.st) [] [] (d.g K) fd := by
  unfold PropD.ok at h
  simp only [Bool.and_eq_true] at h
  obtain ⟨_, a5, a6⟩ := h
  unfold PropD.obs at o
  split at a6
  · rename_i oc od fd osl lk
    rw [lk] at o
    obtain ⟨m1, m2, m3, m4, m5, m6, m7, m8, m9, m10, m11, m12, m13, m14, m15⟩ := fd
    have o2 : (some (m1, m2, m3, m4, m5, m6, m7, m15) : He.FnW) = d.val := o
    unfold PropD.val at o2
    simp only [Option.some.injEq, Prod.mk.injEq] at o2
    obtain ⟨rfl, rfl, rfl, rfl, rfl, rfl, rfl, rfl⟩ := o2
    simp only [Bool.and_eq_true] at a6
    obtain ⟨c1, c2, c3⟩ := a6
    exact ⟨_, ⟨⟨_, _, m8, m9, m10, m11, m12, m13, m14, _, rfl, lk, c1, He.dflB_ok c2, He.kwdB_ok c3⟩, a5⟩⟩
  · cases a6
theorem PropD.told {K : PySem.W.Frag} {d : PropD} (h : d.ok K = true) (o : d.obs K = d.val) (hs : d.sm = false := by rfl) : ∃ fd, FunD K d.f d.qual (defArgs d.st) (defBody d.st) (defScope d.st) [] [] (d.g K) fd ∧ PropOf K (He.ga K d.x) d.f (d.p K) (d.g K) := by
  obtain ⟨fd, F⟩ := PropD.fn h o
  unfold PropD.ok at h
  simp only [Bool.and_eq_true] at h
  obtain ⟨a0, _⟩ := h
  rw [hs, if_neg (by decide)] at a0
  unfold PropD.okP at a0
  simp only [Bool.and_eq_true] at a0
  obtain ⟨⟨a1, a2⟩, a3, a4⟩ := a0
  have hr : ∃ rest, PySem.W.recIn K (d.p K) "property" = some (.ref (d.g K) :: rest) := by
    unfold PropD.g
    rw [hs, if_neg (by decide)]
    split at a4
    · rename_i g r e
      rw [e]
      exact ⟨r, rfl⟩
    · cases a4
  exact ⟨fd, F, He.eqO_ok a1, He.eqO_ok a2, of_decide_eq_true a3, hr⟩
/-- a property's getter as it stands -/
structure AtP (K : PySem.W.Frag) (C : Addr) (f qual : Str) (st : Stmt) (p g : Addr) (fd : FuncData) : Prop where
  fn : FunD K f qual (defArgs st) (defBody st) (defScope st) [] [] g fd
  c : Cls K C
  pr : PropOf K C f p g
  b : Binds K fd ["self"] []
theorem atP_of {K : PySem.W.Frag} {d : PropD} {fd : FuncData} (hc : (He.Fa.cls d.x).ok K = true) (F : FunD K d.f d.qual (defArgs d.st) (defBody d.st) (defScope d.st) [] [] (d.g K) fd) (pr : PropOf K (He.ga K d.x) d.f (d.p K) (d.g K))
    (b : ∀ (kV doc pm : Value) (an : Option Addr) (cdv ct : Value) (us : List Value), us.length = (["self"] : List Str).length → bindArgs (PySem.W.fnOf d.f d.qual (defArgs d.st) (defBody d.st) (defScope d.st) .none kV doc pm an cdv ct) ⟨us, []⟩ = pure ((["self"] : List Str).zip us)) : AtP K (He.ga K d.x) d.f d.qual d.st (d.p K) (d.g K) fd :=
  ⟨F, He.cls_ok hc, pr, FunD.bindsN F b⟩
/-! the head's hook with errors and properties -/
abbrev AlP : Type := AlE × (Bool × List He.FnW)
def lookP (P : Program) (fa : List He.Fa) (fn : List He.DefD) (es : List ErrD) (ds : List PropD) (ex : PySem.W.Frag → Bool) (K : PySem.W.Frag) : AlP := (lookE P fa fn es ex K, (ds.all fun d => d.ok K, ds.map fun d => d.obs K))
def obsP (P : Program) (n : Nat) (fa : List He.Fa) (fn : List He.DefD) (es : List ErrD) (ds : List PropD) (ex : PySem.W.Frag → Bool) (g : Addr → Option Obj) : AlP := lookP P fa fn es ds ex (fragE n g)
structure SaysP (P : Program) (fa : List He.Fa) (fn : List He.DefD) (es : List ErrD) (ds : List PropD) (ex : PySem.W.Frag → Bool) (K : PySem.W.Frag) : Prop where
  e : SaysE P fa fn es ex K
  ok : ∀ d ∈ ds, d.ok K = true
  ob : ∀ d ∈ ds, d.obs K = d.val
def valP (fn : List He.DefD) (es : List ErrD) (ds : List PropD) : AlP := ((He.valD fn, (true, es.map ErrD.val)), (true, ds.map PropD.val))
theorem saysP_of {P : Program} {fa : List He.Fa} {fn : List He.DefD} {es : List ErrD} {ds : List PropD} {ex : PySem.W.Frag → Bool} {K : PySem.W.Frag} (h : lookP P fa fn es ds ex K = valP fn es ds) : SaysP P fa fn es ds ex K := by
  have h1 := congrArg Prod.fst h
  have h2 := congrArg (fun z : AlP => z.2.1) h
  have h3 := congrArg (fun z : AlP => z.2.2) h
  exact ⟨saysE_of h1, fun d q => List.all_eq_true.mp (show (ds.all fun d => d.ok K) = true from h2) d q, map_eq_mem h3⟩
def hookP (P : Program) (n : Nat) (fa : List He.Fa) (fn : List He.DefD) (es : List ErrD) (ds : List PropD) (ex : PySem.W.Frag → Bool) : PySem.W.Hook where
  α := AlP
  obs := fun s => obsP P n fa fn es ds ex s.heap.get?
  val := fun _ => valP fn es ds
  says := fun _ h => ∃ K : PySem.W.Frag, K.In h ∧ SaysP P fa fn es ds ex K
  of := fun _ s e => ⟨fragE n s.heap.get?, He.frG_in, saysP_of e⟩
  keeps := fun _ _ _ z k => by
    obtain ⟨K, hK, c⟩ := z
    exact ⟨K, hK.keeps k, c⟩
theorem obsP_eq {P : Program} {n : Nat} {fa : List He.Fa} {fn : List He.DefD} {es : List ErrD} {ds : List PropD} {ex : PySem.W.Frag → Bool} (s : PySem.W.SharedT) : obsP P n fa fn es ds ex (HandSHeadRun.getT s) = (hookP P n fa fn es ds ex).obs s.abs := by
  show obsP P n fa fn es ds ex (HandSHeadRun.getT s) = obsP P n fa fn es ds ex s.abs.heap.get?
  rw [show HandSHeadRun.getT s = s.abs.heap.get? from funext (HandSHeadRun.getT_eq s)]
end Rm
/-! Rm, part VR: d.get(k, x), what is found or made is frozen. -/
/-! Rm, part VS: a list unpacked; steps. -/
/-! Rm, part VT: loops over a dict's keys (the dict is locked meanwhile). -/
namespace Rm
open PySem PySem.Spec L2
open PyProof.Rows hiding St
variable [Tb]
/-- neither a dict nor locked -/
def Pl (o : HO) : Prop := (∀ ks, o ≠ .dK ks) ∧ (∀ od u, o ≠ .frz od u) ∧ ∀ ks, o ≠ .dT ks
/-- the same but for locks -/
structure Sm (H H' : Hp) : Prop where
  rd : ∀ x u, rdo H x = some u → rdo H' x = some u
  pl : ∀ x o, Pl o → H x = some o → H' x = some o
theorem isTC_pl {o : HO} (h : isTC o) : Pl o := by
  rcases h with ⟨ps, rfl⟩ | ⟨c, x, rfl⟩
  · exact ⟨(fun _ z => by cases z), (fun _ _ z => by cases z), (fun _ z => by cases z)⟩
  · exact ⟨(fun _ z => by cases z), (fun _ _ z => by cases z), (fun _ z => by cases z)⟩
theorem pl_tup {xs : List V} : Pl (.tup xs) := ⟨(fun _ z => by cases z), (fun _ _ z => by cases z), (fun _ z => by cases z)⟩
theorem pl_lst {xs : List V} : Pl (.lst xs) := ⟨(fun _ z => by cases z), (fun _ _ z => by cases z), (fun _ z => by cases z)⟩
theorem pl_ins {C dx : Addr} {fs : List (Str × V)} : Pl (.ins C dx fs) := ⟨(fun _ z => by cases z), (fun _ _ z => by cases z), (fun _ z => by cases z)⟩
theorem pl_xd {fs : List (Str × V)} : Pl (.xd fs) := ⟨(fun _ z => by cases z), (fun _ _ z => by cases z), (fun _ z => by cases z)⟩
section
variable {ca : Ks} {H H' Z Z' M M' : Hp}
mutual
theorem Ow.sm (h : Sm H H') (z : Sm Z Z') : ∀ {v : V} {t : T} {fp : List Addr}, Ow ca H Z v t fp → Ow ca H' Z' v t fp
  | _, _, _, .non => .non
  | _, _, _, .bl b => .bl b
  | _, _, _, .int i => .int i
  | _, _, _, .str x => .str x
  | _, _, _, .tup e A => .tup (z.pl _ _ pl_tup e) (OwA.sm h z A)
  | _, _, _, .lstF e A => .lstF (z.pl _ _ pl_lst e) (OwA.sm h z A)
  | _, _, _, .lstO e A => .lstO (h.pl _ _ pl_lst e) (OwA.sm h z A)
  | _, _, _, .dctF e k A => .dctF (z.rd _ _ e) k (OwA.sm h z A)
  | _, _, _, .dctO e k A nd => .dctO (h.rd _ _ e) k (OwA.sm h z A) nd
  | _, _, _, .dtpF e k A => .dtpF (z.rd _ _ e) k (OwA.sm h z A)
  | _, _, _, .dtpO e k A nd => .dtpO (h.rd _ _ e) k (OwA.sm h z A) nd
  | _, _, _, .insF e k A => .insF (z.pl _ _ pl_ins e) k (OwA.sm h z A)
  | _, _, _, .insO e k A nd => .insO (h.pl _ _ pl_ins e) k (OwA.sm h z A) nd
  | _, _, _, .scr e A => .scr (z.rd _ _ e) (OwA.sm h z A)
theorem OwA.sm (h : Sm H H') (z : Sm Z Z') : ∀ {vs : List V} {ts : List T} {fp : List Addr}, OwA ca H Z vs ts fp → OwA ca H' Z' vs ts fp
  | _, _, _, .nil => .nil
  | _, _, _, .cons a A => .cons (Ow.sm h z a) (OwA.sm h z A)
end
theorem Slot.sm (h : Sm H H') (m : Sm M M') (z : Sm Z Z') {x : Option V} {e : Ent} {fp : List Addr} (s : Slot ca H M Z x e fp) : Slot ca H' M' Z' x e fp := by
  cases s with
  | no => exact .no
  | own o => exact .own (o.sm h z)
  | vw o => exact .vw (o.sm m z)
  | exc x e o => exact .exc x (z.pl _ _ pl_xd e) (o.sm m z)
theorem Slots.sm (h : Sm H H') (m : Sm M M') (z : Sm Z Z') : ∀ {σ : St} {ρ : List Ent} {w : List Addr}, Slots ca H M Z σ ρ w → Slots ca H' M' Z' σ ρ w
  | _, _, _, .nil => .nil
  | _, _, _, .cons a b => .cons (a.sm h m z) (Slots.sm h m z b)
theorem EntV.sm (h : Sm H H') (z : Sm Z Z') {v : V} {e : Ent} {fp : List Addr} (s : EntV ca H Z v e fp) : EntV ca H' Z' v e fp := by
  cases s with
  | own o => exact .own (o.sm h z)
  | vw o => exact .vw (o.sm h z)
end
/-! ### a lock at a, and away again -/
def lkO (od : Obj) : Option HO → Option HO
  | some (.dK ks) => some (.frz od (.dK ks))
  | some (.dT ks) => some (.frz od (.dT ks))
  | o => o
def ulO : Option HO → Option HO
  | some (.frz _ (.dK ks)) => some (.dK ks)
  | some (.frz _ (.dT ks)) => some (.dT ks)
  | o => o
def lk (a : Addr) (od : Obj) (H : Hp) : Hp := fun x => if x = a then lkO od (H x) else H x
def ul (a : Addr) (H : Hp) : Hp := fun x => if x = a then ulO (H x) else H x
def rdO : Option HO → Option HO
  | some (.frz _ u) => some u
  | o => o
theorem rdo_O {H : Hp} {x : Addr} : rdo H x = rdO (H x) := rfl
theorem rdO_lk {od : Obj} {o : Option HO} : rdO (lkO od o) = rdO o := by
  cases o with
  | none => rfl
  | some o => cases o <;> rfl
theorem rdO_ul {o : Option HO} : rdO (ulO o) = rdO o := by
  cases o with
  | none => rfl
  | some o =>
    cases o with
    | frz od u => cases u <;> rfl
    | _ => rfl
theorem lkO_pl {od : Obj} {o : HO} (p : Pl o) : lkO od (some o) = some o := by
  cases o with
  | dK ks => exact absurd rfl (p.1 _)
  | dT ks => exact absurd rfl (p.2.2 _)
  | _ => rfl
theorem ulO_pl {o : HO} (p : Pl o) : ulO (some o) = some o := by
  cases o with
  | frz od u => exact absurd rfl (p.2.1 _ _)
  | _ => rfl
theorem lkO_some {od : Obj} {q : Option HO} {o : HO} (h : lkO od q = some o) (p : Pl o) : q = some o := by
  cases q with
  | none => cases h
  | some q =>
    cases q with
    | dK ks => cases h; exact absurd rfl (p.2.1 _ _)
    | dT ks => cases h; exact absurd rfl (p.2.1 _ _)
    | _ => exact h
theorem ulO_none {o : Option HO} : ulO o = none ↔ o = none := by
  cases o with
  | none => exact Iff.rfl
  | some o =>
    cases o with
    | frz od u => cases u <;> exact ⟨(fun z => by cases z), (fun z => by cases z)⟩
    | _ => exact ⟨(fun z => by cases z), (fun z => by cases z)⟩
theorem lkO_none {od : Obj} {o : Option HO} : lkO od o = none ↔ o = none := by
  cases o with
  | none => exact Iff.rfl
  | some o => cases o <;> exact ⟨(fun z => by cases z), (fun z => by cases z)⟩
section
variable {a x : Addr} {od : Obj} {H M P Z : Hp}
theorem lk_ne (n : x ≠ a) : lk a od H x = H x := if_neg n
theorem ul_ne (n : x ≠ a) : ul a H x = H x := if_neg n
theorem lk_at : lk a od H a = lkO od (H a) := if_pos rfl
theorem ul_at : ul a H a = ulO (H a) := if_pos rfl
theorem lk_none : lk a od H x = none ↔ H x = none := by
  by_cases e : x = a
  · subst e; rw [lk_at]; exact lkO_none
  · rw [lk_ne e]
theorem ul_none : ul a H x = none ↔ H x = none := by
  by_cases e : x = a
  · subst e; rw [ul_at]; exact ulO_none
  · rw [ul_ne e]
theorem NoOwn.unlk {x : Addr} (n : NoOwn (lk a od H) x) : NoOwn H x := fun o e => by
  by_cases q : x = a
  · subst q
    cases o with
    | dK ks =>
      obtain ⟨xs, z⟩ := n (.frz od (.dK ks)) (by rw [lk_at, e]; rfl)
      cases z
    | dT ks =>
      obtain ⟨xs, z⟩ := n (.frz od (.dT ks)) (by rw [lk_at, e]; rfl)
      cases z
    | _ =>
      obtain ⟨xs, z⟩ := n _ (by rw [lk_at, e]; rfl)
      exact ⟨xs, z⟩
  · exact n o (by rw [lk_ne q]; exact e)
theorem lk_not (n : NoT H) : NoT (lk a od H) := fun x ps e => by
  by_cases q : x = a
  · subst q
    rw [lk_at] at e
    exact n _ _ (lkO_some e ⟨(fun _ z => by cases z), (fun _ _ z => by cases z), (fun _ z => by cases z)⟩)
  · rw [lk_ne q] at e; exact n _ _ e
theorem ul_not (n : NoT H) : NoT (ul a H) := fun x ps e => by
  by_cases q : x = a
  · subst q
    rw [ul_at] at e
    cases y : H x with
    | none => rw [y] at e; cases e
    | some o =>
      rw [y] at e
      cases o with
      | frz od u => cases u <;> cases e
      | _ => first | exact n _ _ (y.trans e) | cases e
  · rw [ul_ne q] at e; exact n _ _ e
theorem sm_lk : Sm H (lk a od H) := ⟨fun x u h => by
  by_cases e : x = a
  · subst e; rw [rdo_O, lk_at, rdO_lk]; exact h
  · rw [rdo_O, lk_ne e]; exact h, fun x o p h => by
  by_cases e : x = a
  · subst e; rw [lk_at, h, lkO_pl p]
  · rw [lk_ne e]; exact h⟩
theorem sm_kl : Sm (lk a od H) H := ⟨fun x u h => by
  by_cases e : x = a
  · subst e; rw [rdo_O, lk_at, rdO_lk] at h; exact h
  · rw [rdo_O, lk_ne e] at h; exact h, fun x o p h => by
  by_cases e : x = a
  · subst e; rw [lk_at] at h; exact lkO_some h p
  · rw [lk_ne e] at h; exact h⟩
theorem sm_ul : Sm H (ul a H) := ⟨fun x u h => by
  by_cases e : x = a
  · subst e; rw [rdo_O, ul_at, rdO_ul]; exact h
  · rw [rdo_O, ul_ne e]; exact h, fun x o p h => by
  by_cases e : x = a
  · subst e; rw [ul_at, h, ulO_pl p]
  · rw [ul_ne e]; exact h⟩
theorem Ext.lk {H' : Hp} (h : Ext H H') : Ext (lk a od H) (Rm.lk a od H') := fun x o q => by
  by_cases e : x = a
  · subst e
    rw [lk_at] at q ⊢
    cases y : H x with
    | none => rw [y] at q; cases q
    | some u => rw [h _ _ y, ← y]; exact q
  · rw [lk_ne e] at q ⊢; exact h x o q
theorem Ext.ul {H' : Hp} (h : Ext H H') : Ext (ul a H) (Rm.ul a H') := fun x o q => by
  by_cases e : x = a
  · subst e
    rw [ul_at] at q ⊢
    cases y : H x with
    | none => rw [y] at q; cases q
    | some u => rw [h _ _ y, ← y]; exact q
  · rw [ul_ne e] at q ⊢; exact h x o q
/-- what is locked and then opened -/
theorem ul_lk {ks : List (Key × V)} (e : H a = some (.dK ks)) (h : Ext M H) : ul a (lk a od M) = M := by
  funext x
  by_cases q : x = a
  · subst q
    rw [ul_at, lk_at]
    cases y : M x with
    | none => rfl
    | some u => have z := h _ _ y; rw [e] at z; cases z; rfl
  · rw [ul_ne q, lk_ne q]
theorem upd_lk {ks : List (Key × V)} (e : H a = some (.dK ks)) : upd H a (.frz od (.dK ks)) = lk a od H := by
  funext x
  by_cases q : x = a
  · subst q; rw [upd_same, lk_at, e]; rfl
  · rw [upd_ne q, lk_ne q]
theorem upd_ul {ks : List (Key × V)} (e : H a = some (.frz od (.dK ks))) : upd H a (.dK ks) = ul a H := by
  funext x
  by_cases q : x = a
  · subst q; rw [upd_same, ul_at, e]; rfl
  · rw [upd_ne q, ul_ne q]
end
section
variable {ca : Ks} {a : Addr} {od : Obj} {M P Z H : Hp} {w : List Addr} {ks : List (Key × V)}
theorem Base.lk (b : Base P Z H w) (n : a ∉ w) : Base (Rm.lk a od P) (Rm.lk a od Z) (Rm.lk a od H) w :=
  ⟨b.z.lk, fun x q => lk_none.mpr (b.zw x q), b.m.lk, fun x q => lk_none.mpr (b.mw x q), b.nd, fun x q => (b.hw x q).keep fun o y => by rw [lk_ne (show x ≠ a from fun e => n (by rw [← e]; exact q))]; exact y, ⟨fun q => lk_not (b.tb.m q), lk_not b.tb.z, tabs_keep b.tb.t fun x o e t => sm_lk.pl _ _ (isTC_pl t) e⟩⟩
/-- behind the lock -/
structure Unl (ca : Ks) (a : Addr) (ks : List (Key × V)) (od : Obj) (P Z Z2 H2 : Hp) (w2 : List Addr) : Prop where
  at_ : H2 a = some (.frz od (.dK ks))
  z : Ext Z (ul a Z2)
  zn : ZN P Z (ul a Z2)
  b : Base P (ul a Z2) (upd H2 a (.dK ks)) w2
  h : Sm H2 (upd H2 a (.dK ks))
theorem unl {Z2 H2 : Hp} {w2 : List Addr} (b : Base P Z H w) (e : H a = some (.dK ks)) (hin : P a = some (.dK ks) ∨ Z a = some (.dK ks)) (z : Ext (lk a od Z) Z2) (n : ZN (lk a od P) (lk a od Z) Z2) (b2 : Base (lk a od P) Z2 H2 w2) : Unl ca a ks od P Z Z2 H2 w2 := by
  have hat : H2 a = some (.frz od (.dK ks)) := by
    rcases hin with q | q
    · exact b2.m _ _ (by rw [lk_at, q]; rfl)
    · exact b2.z _ _ (z _ _ (by rw [lk_at, q]; rfl))
  have ez := z.ul (a := a)
  rw [ul_lk e b.z] at ez
  have em := b2.m.ul (a := a)
  rw [ul_lk e b.m] at em
  refine ⟨hat, ez, fun x q => ?_, ?_, by rw [upd_ul hat]; exact sm_ul⟩
  · rcases n x (fun y => q (ul_none.mpr y)) with y | y
    · exact .inl fun h => y (lk_none.mpr h)
    · exact .inr (NoOwn.unlk y)
  · rw [upd_ul hat]
    refine ⟨b2.z.ul, fun x q => ul_none.mpr (b2.zw x q), em, fun x q => lk_none.mp (b2.mw x q), b2.nd, fun x q => ?_, ⟨b.tb.m, ul_not b2.tb.z, tabs_keep b2.tb.t fun x o e t => sm_ul.pl _ _ (isTC_pl t) e⟩⟩
    have o := b2.hw x q
    have ne : x ≠ a := fun y => by
      subst y
      obtain ⟨u, e1, e2⟩ := o
      rw [hat] at e1; cases e1; cases e2
    exact o.keep fun u y => by rw [ul_ne ne]; exact y
end
/-! ### a path that can be read under a lock -/
structure SPd (c : VC) (t : TE) (m : List Ent → Option T) : Prop where
  go : ∀ (M P Z H : Hp) (σ : St) (ρ : List Ent) (w : List Addr) (u : T), Ext M P → Base P Z H w → Slots c.ca H M Z σ ρ w → m ρ = some u → ∃ v g, Ow c.ca M Z v u g ∧ ∀ H', Sm M H' → Sm Z H' → ∀ Q : VK, Q v H' → t σ H' Q
def mdName (i : Nat) : List Ent → Option T := mvName i
def mdItem (m mi : List Ent → Option T) : List Ent → Option T := fun ρ => match m ρ, mi ρ with
  | some (.dct _ ps), some k => (match k.key with
    | some k => getK ps k
    | none => none)
  | some (.lst _ ts), some (.int j) => atI ts j
  | some (.tup ts), some (.int j) => atI ts j
  | _, _ => none
section
variable {c : VC} {t t2 : TE} {m m2 : List Ent → Option T}
theorem SPd.name (i : Nat) : SPd c (tV i) (mdName i) := by
  refine ⟨fun M P Z H σ ρ w u mp b s hf => ?_⟩
  unfold mdName mvName at hf
  unfold tV
  split at hf
  · rename_i t' e
    cases hf
    obtain ⟨x, l, f, r, e1, e2, sl, _⟩ := s.split e
    cases sl with
    | vw h =>
      refine ⟨_, _, h, fun H' _ _ Q q => ?_⟩
      rw [e1]; exact q
  · rename_i t' e
    split at hf
    · rename_i q
      cases hf
      obtain ⟨x, l, f, r, e1, e2, sl, _⟩ := s.split e
      cases sl with
      | own h =>
        obtain rfl := h.nof q
        refine ⟨_, _, h.any, fun H' _ _ Q q => ?_⟩
        rw [e1]; exact q
    · cases hf
  · cases hf
theorem SPd.item (h : SPd c t m) (h2 : SPd c t2 m2) : SPd c (tOp rItem t t2) (mdItem m m2) := by
  refine ⟨fun M P Z H σ ρ w u mp b s hf => ?_⟩
  unfold mdItem at hf
  split at hf
  · rename_i ow ps kt e1 e2
    obtain ⟨v, g, o, k⟩ := h.go M P Z H σ ρ w _ mp b s e1
    obtain ⟨v2, g2, o2, k2⟩ := h2.go M P Z H σ ρ w _ mp b s e2
    split at hf
    · rename_i kk ek
      have hkey := (ow_key o2 ek).1
      have main : ∃ a ks, v = .ref a ∧ (∀ H', Sm M H' → Sm Z H' → rdo H' a = some (.dK ks)) ∧ ∃ y m1, getK ks kk = some y ∧ Ow c.ca M Z y u m1 := by
        cases o with
        | @dctF a ks _ e3 ek3 A =>
          obtain ⟨l, m1, r, y, f1, f2, o1, _⟩ := OwP.foc ek3 A hf
          exact ⟨a, ks, rfl, fun H' s1 s2 => s2.rd _ _ e3, y, m1, f2, o1⟩
        | @dctO a ks _ fp e3 ek3 A nd =>
          obtain ⟨l, m1, r, y, f1, f2, o1, _⟩ := OwP.foc ek3 A hf
          exact ⟨a, ks, rfl, fun H' s1 s2 => s1.rd _ _ e3, y, m1, f2, o1⟩
      obtain ⟨a, ks, rfl, hr, y, m1, hy, oy⟩ := main
      refine ⟨y, m1, oy, fun H' s1 s2 Q q => ?_⟩
      unfold tOp
      refine k H' s1 s2 _ (k2 H' s1 s2 _ ?_)
      simp only [rItem, hr H' s1 s2, hkey, valV_getK, hy]
      exact q
    · cases hf
  · rename_i ow ts j e1 e2
    obtain ⟨v, g, o, k⟩ := h.go M P Z H σ ρ w _ mp b s e1
    obtain ⟨v2, g2, o2, k2⟩ := h2.go M P Z H σ ρ w _ mp b s e2
    obtain rfl := ow_int o2
    have main : ∃ a xs, v = .ref a ∧ (∀ H', Sm M H' → Sm Z H' → rdo H' a = some (.lst xs)) ∧ ∃ y m1, atI xs j = some y ∧ Ow c.ca M Z y u m1 := by
      cases o with
      | @lstF a xs _ e3 A =>
        obtain ⟨y, m1, q, oy⟩ := atI_rel A hf
        exact ⟨a, xs, rfl, fun H' s1 s2 => (rdo_of (s2.pl _ _ pl_lst e3) fun _ _ z => nomatch z), y, m1, q, oy⟩
      | @lstO a xs _ fp e3 A =>
        obtain ⟨y, m1, q, oy⟩ := atI_rel A hf
        exact ⟨a, xs, rfl, fun H' s1 s2 => (rdo_of (s1.pl _ _ pl_lst e3) fun _ _ z => nomatch z), y, m1, q, oy⟩
    obtain ⟨a, ks, rfl, hr, y, m1, hy, oy⟩ := main
    refine ⟨y, m1, oy, fun H' s1 s2 Q q => ?_⟩
    unfold tOp
    refine k H' s1 s2 _ (k2 H' s1 s2 _ ?_)
    simp only [rItem, hr H' s1 s2, hy]
    exact q
  · rename_i ts j e1 e2
    obtain ⟨v, g, o, k⟩ := h.go M P Z H σ ρ w _ mp b s e1
    obtain ⟨v2, g2, o2, k2⟩ := h2.go M P Z H σ ρ w _ mp b s e2
    obtain rfl := ow_int o2
    cases o with
    | @tup a xs _ e3 A =>
      obtain ⟨y, m1, q, oy⟩ := atI_rel A hf
      refine ⟨y, m1, oy, fun H' s1 s2 Q q2 => ?_⟩
      unfold tOp
      refine k H' s1 s2 _ (k2 H' s1 s2 _ ?_)
      simp only [rItem, rdo_of (s2.pl _ _ pl_tup e3) (fun _ _ z => nomatch z), q]
      exact q2
  · cases hf
end
/-! ### the loop -/
def O.noErr : O → O
  | .err _ _ _ => .fail
  | o => o
def mForK (md : List Ent → Option T) (g : T → List Ent → Option (List Ent)) (mb : List Ent → O) : List Ent → O := fun ρ => match md ρ with
  | some (.dct _ ps) => O.noErr (forM g mb (ps.map fun p => keyT p.1) ρ)
  | _ => .fail
/-- locked here, or ahead -/
def tLk (t : TS) : TS := fun D σ H => t D σ H ∨ tLock t D σ H
theorem ps_lk {X : Cx} {st : Stmt} {t : TS} (h : PS X st t) : PS X st (tLk t) :=
  ⟨fun pins s σ H D I hw => hw.elim (h.run pins s σ H D I) ((ps_lock h).run pins s σ H D I)⟩
section
variable {ca : Ks} {M P Z H : Hp} {w : List Addr}
/-- where the dict of a path stands -/
theorem dct_at {v : V} {o : Bool} {ps : List (Key × T)} {g : List Addr} (mp : Ext M P) (b : Base P Z H w) (h : Ow ca M Z v (.dct o ps) g) : ∃ a ks, v = .ref a ∧ ks.map (·.1) = ps.map (·.1) ∧ rdo H a = some (.dK ks) ∧ (rdo P a = some (.dK ks) ∨ rdo Z a = some (.dK ks)) ∧ ∀ H', Sm M H' → Sm Z H' → rdo H' a = some (.dK ks) := by
  cases h with
  | @dctF a ks _ e k A => exact ⟨a, ks, rfl, k, b.z.o e, .inr e, fun H' _ s => s.rd _ _ e⟩
  | @dctO a ks _ fp e k A nd => exact ⟨a, ks, rfl, k, b.m.o (mp.o e), .inl (mp.o e), fun H' s _ => s.rd _ _ e⟩
theorem rdo_cases {a : Addr} {u : HO} (h : rdo H a = some u) : H a = some u ∨ ∃ od, H a = some (.frz od u) := rdo_rd h
theorem keys_yt {ks : List (Key × V)} {ps : List (Key × T)} (k : ks.map (·.1) = ps.map (·.1)) {i : Nat} {kk : Key} {v : V} (h : ks[i]? = some (kk, v)) : (ps.map fun p => keyT p.1)[i]? = some (keyT kk) := by
  have h1 : (ks.map (·.1))[i]? = some kk := by rw [List.getElem?_map, h]; rfl
  rw [k, List.getElem?_map] at h1
  rw [List.getElem?_map]
  cases e : ps[i]? with
  | none => rw [e] at h1; cases h1
  | some p => rw [e] at h1; cases h1; rfl
theorem ow_keyT {Z : Hp} {k : Key} : Ow ca H Z (kV k) (keyT k) [] := by
  cases k with
  | inl i => exact .int i
  | inr x => exact .str x
theorem iter_keysK {a : Addr} {od : Obj} {ks : List (Key × V)} {ps : List (Key × T)} (k : ks.map (·.1) = ps.map (·.1)) (hin : P a = some (.frz od (.dK ks)) ∨ Z a = some (.frz od (.dK ks))) : IterOk ca (Itk a od ks) P Z (ps.map fun p => keyT p.1) := by
  have hl : (ps.map fun p => keyT p.1).length = ks.length := by
    have := congrArg List.length k
    simp at this ⊢; omega
  unfold IterOk
  rw [hl]
  have at_ : ∀ H, Ext Z H ∧ Ext P H → H a = some (.frz od (.dK ks)) := fun H q => hin.elim (q.2 _ _) (q.1 _ _)
  refine ⟨fun i H hi q => ⟨at_ H q, hi⟩, fun H q => ⟨at_ H q, Nat.le_refl _⟩, fun i H x H' hi q y => ?_⟩
  obtain ⟨e1, kk, v, e2, rfl⟩ := y
  exact ⟨keyT kk, keys_yt k e2, .inl ⟨e1, ow_keyT⟩⟩
end
section
variable {F : FC} {W : WX} {td : TE} {md : List Ent → Option T} {g : TG} {tb : TS} {mg : T → List Ent → Option (List Ent)} {mb : List Ent → O}
theorem SS.forK (hd : SPd F.c td md) (hg : SG F g mg) (hb : SS F W tb mb) : SS F W (tLk (tFor (iKeys td) g tb)) (mForK md mg mb) := by
  refine ⟨fun M P Z H σ ρ w D mp b s pn hf => ?_⟩
  unfold mForK at hf
  cases em : md ρ with
  | none => rw [em] at hf; exact hf.elim
  | some u =>
  rw [em] at hf
  cases u with
  | dct ow ps =>
    dsimp only at hf
    obtain ⟨v, gg, o, kv⟩ := hd.go M P Z H σ ρ w _ mp b s em
    obtain ⟨a, ks, rfl, ek, er, hin, hs⟩ := dct_at mp b o
    -- the loop in a heap where the dict is locked
    have run : ∀ {od : Obj} {M' P' Z' H' : Hp} {D' : Ends}, Ext M' P' → Base P' Z' H' w → Slots F.c.ca H' M' Z' σ ρ w → Sm M H' → Sm Z H' → H' a = some (.frz od (.dK ks)) → (P' a = some (.frz od (.dK ks)) ∨ Z' a = some (.frz od (.dK ks))) →
        FinS F W M' P' Z' D' (forM mg mb (ps.map fun p => keyT p.1) ρ) → tFor (iKeys td) g tb D' σ H' := by
      intro od M' P' Z' H' D' mp' b' s' sm sz ea hin' hf'
      refine SS.for_core (mi := fun ρ => .ok (ps.map fun (p : Key × T) => keyT p.1) ρ) (ρ := ρ) (M := M') (P := P') (Z := Z') (W := W) (fun Q h => ?_) hg hb mp' pn hf'
      unfold iKeys
      exact kv H' sm sz _ ⟨a, od, rfl, .inl ⟨ks, ea, h _ H' Z' w (Ext.refl _) ZN.refl b' s' (iter_keysK ek hin')⟩⟩
    rcases rdo_cases er with e | ⟨od, e⟩
    rotate_left
    · -- locked ahead
      refine Or.inl (run (od := od) mp b s ⟨fun x u q => b.m.o (mp.o q), fun x o _ q => b.m _ _ (mp _ _ q)⟩ ⟨fun x u q => b.z.o q, fun x o _ q => b.z _ _ q⟩ e ?_ ?_)
      · rcases hin with q | q
        · rcases rdo_cases q with z | ⟨od', z⟩
          · have := b.m _ _ z; rw [e] at this; cases this
          · have := b.m _ _ z; rw [e] at this; cases this; exact .inl z
        · rcases rdo_cases q with z | ⟨od', z⟩
          · have := b.z _ _ z; rw [e] at this; cases this
          · have := b.z _ _ z; rw [e] at this; cases this; exact .inr z
      · revert hf
        cases forM mg mb (ps.map fun p => keyT p.1) ρ with
        | err C d ρ' => exact fun hf => hf.elim
        | _ => exact id
    · have hin2 : P a = some (.dK ks) ∨ Z a = some (.dK ks) := by
        rcases hin with q | q
        · rcases rdo_cases q with z | ⟨od', z⟩
          · exact .inl z
          · have := b.m _ _ z; rw [e] at this; cases this
        · rcases rdo_cases q with z | ⟨od', z⟩
          · exact .inr z
          · have := b.z _ _ z; rw [e] at this; cases this
      have nw : a ∉ w := fun q => hin2.elim (fun z => by rw [b.mw a q] at z; cases z) fun z => by rw [b.zw a q] at z; cases z
      refine Or.inr ⟨a, _, e, trivial, fun od => ?_⟩
      rw [upd_lk e]
      refine run (od := od) (mp.lk (a := a) (od := od)) (b.lk (a := a) (od := od) nw) (s.sm sm_lk sm_lk sm_lk) ?_ ?_ (by rw [lk_at, e]; rfl) ?_ ?_
      · exact ⟨fun x u q => sm_lk.rd _ _ (b.m.o (mp.o q)), fun x o p q => sm_lk.pl _ _ p (b.m _ _ (mp _ _ q))⟩
      · exact ⟨fun x u q => sm_lk.rd _ _ (b.z.o q), fun x o p q => sm_lk.pl _ _ p (b.z _ _ q)⟩
      · exact hin2.imp (fun z => by rw [lk_at, z]; rfl) fun z => by rw [lk_at, z]; rfl
      · revert hf
        cases forM mg mb (ps.map fun p => keyT p.1) ρ with
        | err C d ρ' => exact fun hf => hf.elim
        | fail => exact id
        | nx ρ' =>
          intro hf σ' H2 Z2 w2 z n b2 s2 pn2
          have U := unl (ca := F.c.ca) b e hin2 z n b2
          exact ⟨U.at_, hf σ' _ (ul a Z2) w2 U.z U.zn U.b (s2.sm U.h sm_kl sm_ul) pn2⟩
        | bk ρ' =>
          intro hf σ' H2 Z2 w2 z n b2 s2 pn2
          have U := unl (ca := F.c.ca) b e hin2 z n b2
          exact ⟨U.at_, hf σ' _ (ul a Z2) w2 U.z U.zn U.b (s2.sm U.h sm_kl sm_ul) pn2⟩
        | ct ρ' =>
          intro hf σ' H2 Z2 w2 z n b2 s2 pn2
          have U := unl (ca := F.c.ca) b e hin2 z n b2
          exact ⟨U.at_, hf σ' _ (ul a Z2) w2 U.z U.zn U.b (s2.sm U.h sm_kl sm_ul) pn2⟩
        | rt en ρ' =>
          intro hf v2 σ' H2 Z2 fp w2 z n b2 ev s2 pn2
          have U := unl (ca := F.c.ca) b e hin2 z n b2
          exact ⟨U.at_, hf v2 σ' _ (ul a Z2) fp w2 U.z U.zn U.b (ev.sm U.h sm_ul) (s2.sm U.h sm_kl sm_ul) pn2⟩
  | _ => exact hf.elim
end
/-! ### a loop over a dict's keys that are tuples -/
/-- a target that takes a tuple of keys -/
structure SGK (F : FC) (g : TG) (m : T → List Ent → Option (List Ent)) : Prop where
  go : ∀ (M P Z H : Hp) (σ : St) (ρ : List Ent) (w : List Addr) (q : Addr) (k : List Key) (Q : St → Hp → Prop), Base P Z H w → H q = some (.tup (k.map kV)) → Slots F.c.ca H M Z σ ρ w → Pin F.pin F.σ0 σ → (match m (.tup (k.map keyT)) ρ with
    | some ρ' => ∀ σ' w', Base P Z H w' → Slots F.c.ca H M Z σ' ρ' w' → Pin F.pin F.σ0 σ' → Q σ' H
    | none => False) → g (.ref q) σ H Q
theorem owA_kts {ca : Ks} {H Z : Hp} : ∀ k : List Key, OwA ca H Z (k.map kV) (k.map keyT) []
  | [] => .nil
  | k :: ks => .cons (f := []) (g := []) ow_keyT (owA_kts ks)
theorem SGK.tup {F : FC} {K : PySem.W.Frag} {n : Nat} {gs : TGs} {ms : List T → List Ent → Option (List Ent)} (h2 : SGs F gs ms) : SGK F (gTup K n gs) (gmTup n ms) := ⟨fun M P Z H σ ρ w q k Q b e s pn h => by
  unfold gmTup at h
  dsimp only at h
  by_cases z : (k.map keyT).length = n
  · rw [if_pos z] at h
    exact ⟨q, _, rfl, SqT.of e, by rw [List.length_map] at z ⊢; exact z, h2.go M P Z H σ ρ w _ _ Q b (owA_kts k) s pn h⟩
  · rw [if_neg z] at h
    exact h.elim⟩
section
variable {c : VC} {W : WX} {td te : TE} {tt : TT} {md : List Ent → Option T} {g : TG} {vs : List Nat} {mg : T → List Ent → Option (List Ent)} {mt : List Ent → R Bool} {me : List Ent → R Ent} {r1 r2 : Bool}
def R.noErr {α : Type} : R α → R α
  | .err _ _ _ => .fail
  | o => o
/-! ### an own thing is frozen from here on -/
end
end Rm
/-! Rm, part VU: try with several clauses 'except C as e', all of one name. -/
/-! Rm, part VX: told(lambda: e), where told gives what a call returns, or what it refuses. -/
namespace Rm
open PySem PySem.Spec L2
open PyProof.Rows hiding St
theorem Takes.len {X : Cx} {W : WX} (t : Takes X W) : Takes X (fun cls d σ H => σ.length = X.N.length → W cls d σ H) := fun u s' ⟨a, B, sI, pins, σ, H, cls, d, e, I, nb, up, sky, na, os, ag, w⟩ =>
  t u s' ⟨a, B, sI, pins, σ, H, cls, d, e, I, nb, up, sky, na, os, ag, w I.len⟩
variable [Tb]
/-! ### repr([e, ..]), the items only looked at -/
end Rm
/-! Rm, part VY: defs that make a lambda; the law's end with tables. -/
namespace Rm
open PySem PySem.Spec L2
open PyProof.Rows hiding St
variable [Tb]
/-- a def that makes lambdas of the name qn: its code object and its table -/
structure LamAt (mg : Str → Option Value) (base : Heap) (fd : FuncData) (qn : Str) : Prop where
  ex : ∃ cb Pb, fd.code = .ref cb ∧ LamX.TabB base mg cb Pb ∧ (Pb, qn) ∈ Tb.T ∧ ∀ p ∈ Tb.T, p.1 = Pb → p.2 = qn
theorem LamAt.ne {mg : Str → Option Value} {base : Heap} {fd : FuncData} {qn : Str} (L : LamAt mg base fd qn) : Tb.T ≠ [] := fun e => by
  obtain ⟨_, _, _, _, h, _⟩ := L.ex
  rw [e] at h; cases h
end Rm
/-! Rm, part WB: more steps of meanings. -/
/-! Rm, part WC: the end of a law whose defs make lambdas. -/
namespace Rm
open PySem PySem.Spec L2
open PyProof.Rows hiding St
/-! the head's objects, but for the empty tables -/
def full (o : Obj) : Bool := match o.data with
  | .fields vs => vs.size != 0
  | _ => true
abbrev tab0 : Obj := { cls := .none, data := .fields #[] }
/-- an empty table -/
def isTab0 (o : Obj) : Bool := match o with
  | ⟨.none, none, .fields vs, sl⟩ => vs.size == 0 && sl.size == 0
  | _ => false
/-- a code object with its table -/
def codeB (o : Obj) (P : Addr) : Bool := match o.cls, o.data with
  | .type n, .fields vs => (((((n == "code" && (match (vs[11]? : Option Value) with | some (.ref q) => q == P | _ => false)) && (match vs.getD 11 .none with | .ref q => q == P | _ => false)) && (match vs.getD 18 .none with | .str _ _ => true | _ => false)) && (match vs.getD 7 .none with | .int _ _ => true | _ => false)) && (match vs.getD 9 .none with | .bool _ => true | _ => false)) && (match vs.getD 10 .none with | .int _ _ => true | _ => false)
  | _, _ => false
/-- where the code object and the table of a def stand -/
def tabP (K : PySem.W.Frag) (x : Str) : Addr × Addr := (PySem.W.tabIn K x).getD (0, 0)
/-- a def whose table is empty -/
def tabB (K : PySem.W.Frag) (x : Str) : Bool := (((PySem.W.tabIn K x).isSome && (match K.lookup (tabP K x).2 with | some o => isTab0 o | none => false)) && (match K.lookup (tabP K x).1 with | some o => codeB o (tabP K x).2 | none => false)) && decide ((tabP K x).1 ≠ (tabP K x).2)
/-- the defs that make lambdas -/
def tabsB (K : PySem.W.Frag) (nms : List Str) : Bool := nms.all (fun x => tabB K x) && nms.all fun x => nms.all fun y => decide ((tabP K y).2 ≠ (tabP K x).2) || decide (y = x)
/-- what the head leaves: the fragment K, and the tables in K0 -/
structure SaysL (P : Program) (fa : List He.Fa) (fn : List He.DefD) (es : List ErrD) (ds : List PropD) (ex : PySem.W.Frag → Bool) (nms : List Str) (h : Heap) (K K0 : PySem.W.Frag) : Prop where
  kin : K.In h
  says : SaysP P fa fn es ds ex K
  all : ∀ a o, K.lookup a = some o → full o = true
  kin0 : K0.In h
  tb : tabsB K0 nms = true
section
variable {P : Program} {fa : List He.Fa} {fn : List He.DefD} {es : List ErrD} {ds : List PropD} {ex : PySem.W.Frag → Bool} {nms : List Str} {h : Heap} {K K0 : PySem.W.Frag}
theorem SaysL.no (s : SaysL P fa fn es ds ex nms h K K0) {a : Addr} (e : h.get? a = some tab0) : K.lookup a = none := by
  cases q : K.lookup a with
  | none => rfl
  | some o =>
    have h1 := s.all a o q
    have h2 := s.kin a o q
    rw [e] at h2
    cases h2
    exact absurd h1 (by simp [full])
end
/-! ### the call -/
/-- the law's tables at its call -/
structure AtTabs (K : PySem.W.Frag) (mg : Str → Option Value) (h : Heap) (cs : List (Addr × Addr)) : Prop where
  t : ∀ p ∈ cs, h.get? p.2 = some tab0
  k : ∀ p ∈ cs, K.lookup p.2 = none
  c : ∀ p ∈ cs, PySem.W.CodeHd h p.1 p.2
  bm : ∃ (bm : Addr) (ob : Obj), mg "__builtins__" = some (.ref bm) ∧ bm ≠ builtinsNs ∧ h.get? bm = some ob ∧ ob.cls = .type "module" ∧ ob.dict = some builtinsNs ∧ ob.data = .plain
def isTab (cs : List (Addr × Addr)) (b : Addr) : Prop := ∃ p ∈ cs, b = p.2
section
variable {P : Program} {w : World} {K : PySem.W.Frag} {mg mb : Str → Option Value} {s : Shared} {a : Addr} {vs : List Value} {ns : List Int} {H : Hp} {cs : List (Addr × Addr)}
theorem AtTabs.ne (A : AtTabs K mg s.heap cs) {b : Addr} {o : Obj} (e : s.heap.get? b = some o) (h : o.data ≠ .fields #[]) : ¬ isTab cs b := fun ⟨p, hp, z⟩ => by
  rw [z, A.t p hp] at e
  cases e
  exact h rfl
end
end Rm
/-! Rm, part WD: statements over a dict that is only looked at; names for parts of what is lent. -/
/-! Rm, part WF: dict(list of pairs), list(range(n)). -/
/-! Rm, part WG: a statement during which an own thing is only looked at. -/
/-! Rm, part WH: sorted(set(xs)) of a list of whole numbers. -/
/-! Rm, part WI: a loop over an own list whose items are changed. -/
/-! Rm, part WJ: a part of what is lent, asked by what changes other things. -/
/-! Rm, part WK: d[call] = v; sorted(list of ints). -/
/-! Rm, part WE: != of lists of other lengths, whatever stands in them. -/
/-! Rm, part SA: super().m(..) of own classes. -/
namespace Rm
open PySem PySem.Spec L2
open PyProof.Rows hiding St
/-- a def that says super(): it stands at fI in the class at D -/
structure SupF (P : Program) (K : PySem.W.Frag) (D fI cc : Addr) (F : NdefX.NF) : Prop where
  lk : ∃ oc od osl kV doc pm an ct, K.lookup fI = some ⟨oc, od, .func (PySem.W.fnX F.name F.qual F.params F.body F.scope F.cl .none kV doc pm an (.ref F.c) ct), osl⟩
  cd : PySem.W.codeIn K (.ref F.c) F.qual = true
  code : ∃ ccl cdd vs ccs file tf, K.lookup F.c = some ⟨ccl, cdd, .fields vs, ccs⟩ ∧ vs[2]? = some (.str file tf) ∧ ((P.main.file : Str) == file) = true
  cl : F.cl = [(("__class__" : Str), cc)]
  cell : ∃ a b d, K.lookup cc = some ⟨a, b, .cell (some (.ref D)), d⟩
  cls : ∃ cd, PySem.W.clsIn K D = some cd
  sup : PySem.W.nsIn K mainGlobals "super" = some none
end Rm
/-! Rm, part SB: statements that say super().m(..); defs with such statements. -/
namespace Rm
open PySem PySem.Spec L2
open PyProof.Rows hiding St
/-- statements, run within a def's code -/
structure PSsA (X : Cx) (c : Code) (st : List Stmt) (t : TS) : Prop where
  run : ∀ (pins : List (Addr × Obj)) (s : Shared) (σ : St) (H : Hp) (D : Ends), Inv X pins σ H s → t D σ H → PySem.wpAt (model X.prog X.w) X.A c (execs st X.env) (SP X pins D) X.xe s
structure PSA (X : Cx) (c : Code) (st : Stmt) (t : TS) : Prop where
  run : ∀ (pins : List (Addr × Obj)) (s : Shared) (σ : St) (H : Hp) (D : Ends), Inv X pins σ H s → t D σ H → PySem.wpAt (model X.prog X.w) X.A c (exec st X.env) (SP X pins D) X.xe s
section
variable {X : Cx} {c : Code} {st : Stmt} {rest : List Stmt} {t u : TS}
theorem PSsA.of (h : PSs X rest t) : PSsA X c rest t := ⟨fun pins s σ H D I q => wpAt_of_wpAny (h.run pins s σ H D I q)⟩
theorem PSA.of (h : PS X st t) : PSA X c st t := ⟨fun pins s σ H D I q => wpAt_of_wpAny (h.run pins s σ H D I q)⟩
theorem PSsA.cons (h1 : PSA X c st t) (h2 : PSsA X c rest u) : PSsA X c (st :: rest) (tSeq t u) := by
  refine ⟨fun pins s σ H D I h => ?_⟩
  refine PySem.ks_wpAt_execs_cons (PySem.ks_wpAt_mono (h1.run pins s σ H { D with nx := u D } I h) (fun f s1 q => ?_) fun _ _ z => z)
  cases f with
  | next =>
    obtain ⟨σ', H', I', q⟩ := q
    exact h2.run pins s1 σ' H' D I' q
  | ret v => exact q
  | brk => exact q
  | cont => exact q
end
section
variable {P : Program} {w : World} {K : PySem.W.Frag} {mg : Str → Option Value} {base : Heap} {N : List Str} {F : NdefX.NF} {fI : Addr} {A : Around} {outer : List Env} {s0 : Shared} {H0 : Hp} {E0 : XK} {C D g cc : Addr} {m slf : Str}
/-- a def in which super() is said keeps its promise -/
theorem okSup {k : Nat} {sp : Sp} {fd : FuncData} {ps : List Str} (T : SupF P K D fI cc F) (hfd : ∃ oc od osl, K.lookup fI = some ⟨oc, od, .func fd, osl⟩) (S : NdefX.NScope N ps ["__class__"] F.scope) (len : ∀ vs H Q E, sp vs H Q E → vs.length = ps.length)
    (hb : ∀ (A : Around) (outer : List Env) (s : Shared) (H : Hp) (vs : List V) (Q : VK) (E : XK), Room k (NdefX.ncx (L2.CX P w) P w K mg base N F fI A outer s H E).A → Takes (NdefX.ncx (L2.CX P w) P w K mg base N F fI A outer s H E) (fun cls d _ H => E cls d H) →
      PassesOwn (model P w) (NdefX.ncx (L2.CX P w) P w K mg base N F fI A outer s H E).A (NdefX.ncx (L2.CX P w) P w K mg base N F fI A outer s H E).env (NdefX.ncx (L2.CX P w) P w K mg base N F fI A outer s H E).xe → sp vs H Q E →
      ∃ t, PSsA (NdefX.ncx (L2.CX P w) P w K mg base N F fI A outer s H E) (.func F.body (NdefX.envF F fI s.heap.objs.size)) F.body t ∧ t { nx := fun _ H' => Q .non H', rt := Q } (NdefX.startF N vs [some (.ref D)]) H) :
    FnOk P w K mg base (L2.CX P w) (k + 1) fI fd ps sp := by
  obtain ⟨oc0, od0, osl0, lk0⟩ := hfd
  obtain ⟨oc, od, osl, kV, doc, pm, an, ct, lk⟩ := T.lk
  have e1 := lk.symm.trans lk0
  injection e1 with e1
  injection e1 with _ _ e1 _
  injection e1 with e1
  subst e1
  refine ⟨len, fun A outer s H args us vs Q E hr e0 hbd r hsp => ?_⟩
  have hl := len _ _ _ _ hsp
  have kx : K.In s.heap := e0.mod.kin.keeps fun b o e => (e0.bs b o e).1
  have lim : s.heap.NoLimit := e0.mod.nolimit.keeps fun b o e => (e0.bs b o e).1
  obtain ⟨c0, c1, c3, lkc⟩ := T.cell
  have hcc : H cc = none := (e0.bs _ _ (e0.mod.kin _ _ lkc)).2
  have CA : NdefX.CellsAt F.cl ["__class__"] [some (.ref D)] s.heap H := by
    rw [T.cl]
    refine ⟨rfl, fun y c e => ?_, fun x y c h1 h2 => ?_, fun i y h => ?_⟩
    · have : c = cc := by
        simp only [List.lookup] at e
        split at e
        · injection e with e; exact e.symm
        · cases e
      subst this
      exact ⟨hcc, _, _, kx _ _ lkc, rfl⟩
    · simp only [List.lookup] at h1 h2
      split at h1
      · rename_i e1
        split at h2
        · rename_i e2
          exact (eq_of_beq e1).trans (eq_of_beq e2).symm
        · cases h2
      · cases h1
    · match i, h with
      | 0, h =>
        injection h with h
        subst h
        refine ⟨cc, by simp [List.lookup], fun v hv => ?_⟩
        injection hv with hv
        injection hv with hv
        subst hv
        exact ⟨.ref D, rfl, _, kx _ _ lkc, rfl⟩
      | i + 1, h => cases h
  refine codeAny_call_function hr.depth (kx _ _ lk) rfl S.co S.gen rfl (PySem.W.codeRec_of kx T.cd) (hbd _ _ _ _ ?_)
  refine wpAny_newFunctionEnv S.nocell (fun y hy => S.par y.1 (List.of_mem_zip hy).1) (fun h₁ hns hsb => ⟨lim.fresh _ hsb, ?_⟩) S.kind
  have kp : ∀ b o, s.heap.get? b = some o → h₁.get? b = some o := fun b o e => hsb.extBut b o (Nat.ne_of_lt (Heap.lt_size e)) (Heap.get?_push_of_some _ e)
  have I : L2.Inv (NdefX.ncx (L2.CX P w) P w K mg base N F fI A outer s H E) [] (NdefX.startF N vs [some (.ref D)]) H { s with heap := h₁, toks := s.toks + (ps.zip us).length } :=
    NdefX.inv_startN S hr.hd e0 hl r CA hns kp
  obtain ⟨t, ht, hq⟩ := hb A outer s H vs Q E (hr.deeper _) (takes_of rfl rfl rfl rfl) (passes_of rfl) hsp
  show codeAny _ _ (.func F.body (NdefX.envF F fI s.heap.objs.size)) _ _
  refine PySem.ks_codeAny_funcAt ?_
  have fin : ∀ {σ' : St} {H' : Hp} {v : V} {u : Value} {s' : Shared}, Inv (NdefX.ncx (L2.CX P w) P w K mg base N F fI A outer s H E) [] σ' H' s' → RelV v u → Q v H' → CE outer P w H s Q u s' :=
    fun {σ' H' v u s'} J rv q => ⟨v, H', J.os, J.bare, J.base, J.hok, rv, q⟩
  refine PySem.ks_wpAt_mono (ht.run [] _ _ H _ I hq) (fun fl s' hs => ?_) (fun e s' z => z)
  cases fl with
  | ret u =>
    obtain ⟨v, σ', H', J, rv, q⟩ := hs
    exact fin J rv q
  | next =>
    obtain ⟨σ', H', J, q⟩ := hs
    exact fin (v := V.non) (u := Value.none) J rfl q
  | brk =>
    obtain ⟨_, _, _, q⟩ := hs
    exact False.elim q
  | cont =>
    obtain ⟨_, _, _, q⟩ := hs
    exact False.elim q
end
end Rm
/-! Rm, part SC: defs with super() as they stand; their bodies. -/
namespace Rm
open PySem PySem.Spec L2
open PyProof.Rows hiding St
/-- a def in which super() is said, of the class at D -/
structure AtS (P : Program) (K : PySem.W.Frag) (D : Addr) (m qual : Str) (st : Stmt) (ps : List Str) (f : Addr) (fd : FuncData) : Prop where
  ex : ∃ cc cdA, SupF P K D f cc ⟨m, qual, defArgs st, defBody st, defScope st, [(("__class__" : Str), cc)], cdA⟩
  lk : ∃ oc od osl, K.lookup f = some ⟨oc, od, .func fd, osl⟩
  b : L2.Binds K fd ps []
section
variable {P : Program} {w : World} {K : PySem.W.Frag} {mg : Str → Option Value} {base : Heap} {N ps : List Str} {D f0 : Addr} {fd0 : FuncData} {m qual : Str} {st : Stmt} {k : Nat} {sp : Sp}
theorem okS (F : AtS P K D m qual st ps f0 fd0) (S : NdefX.NScope N ps ["__class__"] (defScope st)) (len : ∀ vs H Q E, sp vs H Q E → vs.length = ps.length)
    (hb : ∀ (cc cdA : Addr) (_ : SupF P K D f0 cc ⟨m, qual, defArgs st, defBody st, defScope st, [(("__class__" : Str), cc)], cdA⟩) (A : Around) (outer : List Env) (s : Shared) (H : Hp) (vs : List V) (Q : VK) (E : XK),
      Room k (NdefX.ncx (L2.CX P w) P w K mg base N ⟨m, qual, defArgs st, defBody st, defScope st, [(("__class__" : Str), cc)], cdA⟩ f0 A outer s H E).A → Takes (NdefX.ncx (L2.CX P w) P w K mg base N ⟨m, qual, defArgs st, defBody st, defScope st, [(("__class__" : Str), cc)], cdA⟩ f0 A outer s H E) (fun cls d _ H => E cls d H) →
      PassesOwn (model P w) (NdefX.ncx (L2.CX P w) P w K mg base N ⟨m, qual, defArgs st, defBody st, defScope st, [(("__class__" : Str), cc)], cdA⟩ f0 A outer s H E).A (NdefX.ncx (L2.CX P w) P w K mg base N ⟨m, qual, defArgs st, defBody st, defScope st, [(("__class__" : Str), cc)], cdA⟩ f0 A outer s H E).env
        (NdefX.ncx (L2.CX P w) P w K mg base N ⟨m, qual, defArgs st, defBody st, defScope st, [(("__class__" : Str), cc)], cdA⟩ f0 A outer s H E).xe → sp vs H Q E →
      ∃ t, PSsA (NdefX.ncx (L2.CX P w) P w K mg base N ⟨m, qual, defArgs st, defBody st, defScope st, [(("__class__" : Str), cc)], cdA⟩ f0 A outer s H E) (.func (defBody st) (NdefX.envF ⟨m, qual, defArgs st, defBody st, defScope st, [(("__class__" : Str), cc)], cdA⟩ f0 s.heap.objs.size)) (defBody st) t ∧
        t { nx := fun _ H' => Q .non H', rt := Q } (NdefX.startF N vs [some (.ref D)]) H) :
    FnOk P w K mg base (L2.CX P w) (k + 1) f0 fd0 ps sp := by
  obtain ⟨cc, cdA, T⟩ := F.ex
  exact okSup T F.lk S len fun A outer s H vs Q E hr tk po h => hb cc cdA T A outer s H vs Q E hr tk po h
end
end Rm
/-! Rm, part YA: CONST.index(x); len(set(texts)); sorted(texts); all(..); isinstance(x, (list, tuple)). -/
namespace Rm
open PySem PySem.Spec L2
open PyProof.Rows hiding St
variable [Tb]
/-! ### CONST.index(x), CONST a written tuple of texts -/
def CstN (K : PySem.W.Frag) (mg : Str → Option Value) (x : Str) (ys : List Str) : Prop := ∃ p, mg x = some (.ref p) ∧ (∀ H, SqT K H p (ys.map V.str)) ∧ ∃ o, K.lookup p = some o ∧ o.cls = .type "tuple" ∧ o.dict = none
def rTI (K : PySem.W.Frag) : V → List V → Hp → VK → Prop := fun x xs H Q => ∃ p, ∃ ys : List Str, ∃ z j, x = .ref p ∧ xs = [.str z] ∧ SqT K H p (ys.map V.str) ∧ ys[j]? = some z ∧ (∀ m, m < j → ys[m]? ≠ some z) ∧ Q (.int (j : Nat)) H
def tIdxC (K : PySem.W.Frag) (ys : List Str) (te : TE) : TE := fun σ H Q => ∀ p, (∀ H, SqT K H p (ys.map V.str)) → te σ H fun v H1 => rTI K (.ref p) [v] H1 Q
theorem pe_idxC {X : Cx} {x : Str} {ys : List Str} {e : Expr} {te : TE} {p ap cp : Pos} (c : CstN X.K X.mg x ys) (he : PE X e te) (hg : Gl X x := by rfl) (hd : (x == ("__debug__" : Str)) = false := by decide)
    (hbase : attributeBase (.Name x p) "index" X.env (eval (.Name x p) X.env) = eval (.Name x p) X.env := by rfl)
    (hfew : ((backTo cp (starEach [e] X.env)).all (fun x => !x.1) && (backToKw cp (keywordEach [] X.env)).all (fun x => x.1.isSome)
      && decide (([e] : List Expr).length + ([] : List Keyword).length + (if ([] : List Keyword).isEmpty then 0 else 1) < 30)) = true := by rfl)
    (hline : (ap.endLine == cp.line) = true := by rfl) (hs : starEach [e] X.env = (false, eval e X.env) :: starEach [] X.env := by rfl) (hplain : (backTo cp (starEach [] X.env)).any (·.1) = false := by rfl) :
    PE X (.Call (.Attribute (.Name x p) "index" ap) [e] [] cp) (tIdxC X.K ys te) := by
  obtain ⟨q, e1, e2, o, ho, hc, hdd⟩ := c
  refine PE.imp (pe_bm PySem.F.plainAttrs_tuple PySem.F.slot_tuple_index PySem.F.type_tuple_index mt_tup_index (pe_glob (v := .ref q) (pos := p) hg e1 (show RelV (.ref q) (.ref q) from rfl) hd) (pa_cons he pa_nil (hs := hs)) hbase hfew hline hs hplain) fun σ H Q h => ?_
  exact ⟨.inr (.inl ⟨rfl, o, ho, hc, hdd⟩), h q e2⟩
/-- its meaning: the first place -/
def pIdxC (ys : List Str) : List T → Option Ent := fun ts => match ts with
  | [.str z] => if z ∈ ys then oI ((ys.idxOf z : Nat) : Int) else none
  | _ => none
theorem idx_first {z : Str} : ∀ {ys : List Str}, z ∈ ys → ys[ys.idxOf z]? = some z ∧ ∀ m, m < ys.idxOf z → ys[m]? ≠ some z
  | [], h => nomatch h
  | y :: ys, h => by
    by_cases q : y = z
    · subst q
      rw [List.idxOf_cons_self]
      exact ⟨rfl, fun m hm => absurd hm (Nat.not_lt_zero m)⟩
    · have h2 : z ∈ ys := (List.mem_cons.mp h).resolve_left fun e => q e.symm
      have ih := idx_first h2
      have e1 : (y :: ys).idxOf z = ys.idxOf z + 1 := by
        have : (y == z) = false := by simpa using q
        simp [List.idxOf_cons, this]
      rw [e1]
      refine ⟨by rw [List.getElem?_cons_succ]; exact ih.1, fun m hm => ?_⟩
      cases m with
      | zero => rw [List.getElem?_cons_zero]; exact fun e => q (Option.some.inj e)
      | succ m => rw [List.getElem?_cons_succ]; exact ih.2 m (by omega)
section
variable {c : VC} {W : WX} {r1 : Bool} {t : TE} {m : List Ent → R Ent}
theorem pr_idxC {ca : Ks} {K : PySem.W.Frag} {ys : List Str} {p : Addr} (hp : ∀ H, SqT K H p (ys.map V.str)) : Prim ca (r1L fun v H Q => rTI K (.ref p) [v] H Q) (pIdxC ys) := ⟨fun P Z H w vs ts Q b o h => by
  unfold pIdxC at h
  split at h
  · rename_i z
    obtain ⟨v, g, rfl, h1⟩ := o.i1
    split at h
    · rename_i hz
      obtain ⟨e1, e2⟩ := idx_first hz
      refine ⟨p, ys, z, ys.idxOf z, rfl, ?_, hp H, e1, e2, h.now b (.own (.int _))⟩
      rw [ow_str h1]
    · exact h.elim
  · exact h.elim⟩
theorem SV.idxC {K : PySem.W.Frag} {ys : List Str} (h : SV c W r1 t m) : SV c W r1 (tIdxC K ys t) (mPrim (pIdxC ys) (mCons true m mNil)) :=
  ⟨fun M P Z H σ ρ w Q mp b s hf p hp => (SV.un (pr_idxC hp) h).go M P Z H σ ρ w Q mp b s hf⟩
end
/-! ### sorted(texts) -/
/-! ### all(list of True, False) -/
/-! ### isinstance(x, (list, tuple)) -/
/-! ### isinstance(x, D), x an instance of an own class C -/
structure IsiO (K : PySem.W.Frag) (C D : Addr) (b : Bool) : Prop where
  cl : Cls K C
  ha : PySem.W.findIn K (.ref C) "__class__" = some (some (.builtin "object.__class__"))
  hn : PySem.W.specialIn K (.builtin "object.__class__") "__get__" = some (some (.builtin "getset_descriptor.__get__"))
  htk : PySem.W.takesIn K (.builtin "object.__class__") = some true
  hm : PySem.W.mroIn K C (.type "object") = some true
  k : PySem.W.kitOne K (.ref C) (.ref D) = some b
def rIsiO (C D : Addr) (b : Bool) : List V → Hp → VK → Prop := fun xs H Q => ∃ (a dx : Addr) (fs : List (Str × V)), xs = [.ref a, .ref D] ∧ H a = some (.ins C dx fs) ∧ Q (.bl b) H
theorem callIsiO {X : Cx} {C D : Addr} {b : Bool} (i : IsiO X.K C D b) : CallR X (.builtin "isinstance") (rIsiO C D b) := by
  intro pins s σ H xs us Q I r h
  obtain ⟨a, dx, fs, rfl, e, q⟩ := h
  exact call_isi pins s σ H _ us Q I r ⟨.ref a, .ref D, _, _, _, rfl, .own D, .base (.ins e i.cl i.ha i.hn i.htk i.hm), i.k, q⟩
/-! ### len(set(texts)) -/
end Rm
/-! Rm, part YB: {None: i, "x": j, ..}[e]. -/
namespace Rm
open PySem PySem.Spec L2
open PyProof.Rows hiding St
variable [Tb]
/-! ### a path with items, read from what is only looked at -/
theorem Sm.ofExt {H H' : Hp} (x : Ext H H') : Sm H H' := ⟨fun a u h => x.o h, fun a o _ h => x a o h⟩
section
variable {c : VC} {t : TE} {m : List Ent → Option T}
theorem SPd.v (h : SPd c t m) : SPv c t m := ⟨fun M P Z H σ ρ w Q mp b s hf => by
  cases e : m ρ with
  | none => rw [e] at hf; exact hf.elim
  | some u =>
    rw [e] at hf
    obtain ⟨v, g, o, k⟩ := h.go M P Z H σ ρ w u mp b s e
    exact k H (Sm.ofExt (mp.trans b.m)) (Sm.ofExt b.z) Q (hf v g o)⟩
end
end Rm
/-! Rm, part YC: a head's hook with defs that say super(). -/
namespace Rm
open PySem PySem.Spec L2
open PyProof.Rows hiding St
/-- a def of the class x that says super() -/
structure SupD where
  x : Str
  m : Str
  qual : Str
  st : Stmt
def SupD.f (K : PySem.W.Frag) (d : SupD) : Addr := He.ma K (He.ga K d.x) d.m
def SupD.obs (K : PySem.W.Frag) (d : SupD) : FnE := match K.lookup (d.f K) with
  | some ⟨_, _, .func fd, _⟩ => some (fd.name, fd.qualname, fd.params, fd.body, fd.scope, fd.globals, fd.closure.map (·.1), fd.builtins)
  | _ => none
def SupD.val (d : SupD) : FnE := some (d.m, d.qual, defArgs d.st, .stmts (defBody d.st), defScope d.st, mainGlobals, ["__class__"], builtinsNs)
def SupD.ok (P : Program) (K : PySem.W.Frag) (d : SupD) : Bool :=
  errFnB P K (He.ga K d.x) (d.f K) d.qual && ((PySem.W.clsIn K (He.ga K d.x)).isSome && He.eqO (PySem.W.nsIn K mainGlobals "super") (some none))
def isioB (K : PySem.W.Frag) (C D : Addr) (b : Bool) : Bool := He.eqO (PySem.W.findIn K (.ref C) "__class__") (some (some (.builtin "object.__class__"))) && (He.eqO (PySem.W.specialIn K (.builtin "object.__class__") "__get__") (some (some (.builtin "getset_descriptor.__get__"))) &&
  (decide (PySem.W.takesIn K (.builtin "object.__class__") = some true) && (decide (PySem.W.mroIn K C (.type "object") = some true) && decide (PySem.W.kitOne K (.ref C) (.ref D) = some b))))
theorem isioB_ok {K : PySem.W.Frag} {C D : Addr} {b : Bool} (c : Cls K C) (h : isioB K C D b = true) : IsiO K C D b := by
  unfold isioB at h
  simp only [Bool.and_eq_true] at h
  obtain ⟨h1, h2, h3, h4, h5⟩ := h
  exact ⟨c, He.eqO_ok h1, He.eqO_ok h2, of_decide_eq_true h3, of_decide_eq_true h4, of_decide_eq_true h5⟩
def cstnB (K : PySem.W.Frag) (x : Str) : Bool := match K.lookup (He.ga K x) with
  | some ⟨.type c, none, _, _⟩ => decide (c = "tuple")
  | _ => false
theorem cstN_of {K : PySem.W.Frag} {h : Heap} {mg : Str → Option Value} {x : Str} {ys : List Str} (X : K.In h) (G : h.Ns mainGlobals mg) (c : (He.Fa.glo x).ok K = true) (t : He.tupB K x (ys.map .str) = true) (n : cstnB K x = true) : CstN K mg x ys := by
  refine ⟨_, He.glo_ok X G c, fun H => ?_, ?_⟩
  · have := He.tupB_ok t H
    rwa [List.map_map] at this
  · unfold cstnB at n
    split at n
    · rename_i cn dt sl e
      have := of_decide_eq_true n
      subst this
      exact ⟨_, e, rfl, rfl⟩
    · cases n
/-! the head's hook -/
end Rm
/-! Rm, part YE: o.m(e, .., k = v, ..) that only reads. -/
/-! Rm, part YF: methods with keyword-only parameters that have defaults. -/
/-! Rm, part YG: methods called without their keyword-only parameters. -/
namespace Rm
open PySem PySem.Spec L2
open PyProof.Rows hiding St
/-! ### meanings -/
theorem Slots.init {ca : Ks} {M Z H : Hp} {x : Option V} : ∀ {σ : St} {ρ : List Ent} {w : List Addr}, Slots ca H M Z (σ ++ [x]) ρ w → ∃ w1 f, w = w1 ++ f ∧ Slots ca H M Z σ (ρ.take σ.length) w1
  | [], _, _, .cons a s => ⟨[], _, rfl, by simpa using Slots.nil⟩
  | y :: σ, _, _, .cons (f := f) a s => by
    obtain ⟨w1, g, e, s1⟩ := Slots.init s
    exact ⟨f ++ w1, g, by rw [e, List.append_assoc], by simpa using Slots.cons a s1⟩
end Rm
/-! Rm, part YI: max(xs) of a list of whole numbers. -/
/-! Rm, part YJ: len(set(xs)) and sorted(xs) of lists and tuples of texts. -/
/-! Rm, part YL: static methods, called of their class; xs.index(k) of an own list of whole numbers. -/
/-! Rm, part YM: dicts whose keys are (int, str). -/
/-! Rm, part YN: an item of an own list as an argument that is changed, or looked at while others are changed. -/
/-! Rm, part YO: own | and the like, both sides of one own class. -/
/-! Rm, part ZA: sorted(xs) of alike data (numbers, texts, tuples of them). -/
/-! Rm, part ZB: sorted(xs) of trees. -/
/-! Rm, part ZC: sets of tuples of numbers and texts: a set that is filled. -/
namespace Rm
open PySem PySem.Spec L2
open PyProof.Rows hiding St
section
variable {P : Program} {w : World} {A : Around} {E : Value → Shared → Prop} {s : Shared}
/-- the tuple of keys k stands at b -/
abbrev TupK (P : Program) (w : World) (h : Heap) (k : List Key) (b : Addr) : Prop := IsTupleKey (mixKind P w) h k b
/-- its hash -/
abbrev hsK (P : Program) (w : World) (k : List Key) : Int := tupleKeyHash (mixKind P w) k
/-! ### the set -/
abbrev PK := Addr × List Key
def entK (P : Program) (w : World) (L : List PK) : List (Int × Value) := L.map fun p => (hsK P w p.2, Value.ref p.1)
abbrev hshK (P : Program) (w : World) (L : List PK) : List Int := L.map fun p => hsK P w p.2
structure SetK (P : Program) (w : World) (h : Heap) (a : Addr) (L : List PK) (es : Array (Int × Value)) (ep : Nat) (t : SetTable) : Prop where
  ob : ∃ o, h.get? a = some o ∧ o.ExactSet ∧ o.data = .set es ep t
  rows : es.toList = entK P w L
  tab : TabOk t (hshK P w L)
  nd : (L.map (·.2)).Nodup
  tup : ∀ p ∈ L, TupK P w h p.2 p.1
  led : w.params.followText "set-order" = true ∨ t.led = true
  room : L.length * 5 < t.mask * 3
  few : L.length < 64
variable {a : Addr} {L : List PK} {es : Array (Int × Value)} {ep : Nat} {t : SetTable}
theorem entK_len (hr : es.toList = entK P w L) : es.size = L.length := by
  rw [← Array.length_toList, hr]
  unfold entK
  rw [List.length_map]
theorem SetK.size (R : SetK P w s.heap a L es ep t) : es.size = L.length := entK_len R.rows
/-! ### one more -/
end
end Rm
/-! Rm, part ZD: set(xs) of a list of tuples of numbers and texts; sorted(set(xs)) of them. -/
namespace Rm
open PySem PySem.Spec L2
open PyProof.Rows hiding St
/-- what a set has of the first i items -/
structure GotK (ks : List PK) (i : Nat) (L : List PK) : Prop where
  sub : ∀ p ∈ L, p ∈ ks.take i
  all : ∀ p ∈ ks.take i, p.2 ∈ L.map (·.2)
  len : L.length ≤ i
theorem take_snoc {α : Type} {l : List α} {i : Nat} {x : α} (h : l[i]? = some x) : l.take (i + 1) = l.take i ++ [x] := by
  rw [List.take_succ, h]; rfl
theorem GotK.next {ks L L' : List PK} {i : Nat} {x : PK} (g : GotK ks i L) (h : ks[i]? = some x) (h1 : x.2 ∈ L.map (·.2) → L' = L) (h2 : x.2 ∉ L.map (·.2) → L'.Perm ((x.1, x.2) :: L)) : GotK ks (i + 1) L' := by
  have e := take_snoc h
  rcases Classical.em (x.2 ∈ L.map (·.2)) with c | c
  · rw [h1 c]
    refine ⟨fun p hp => ?_, fun p hp => ?_, Nat.le_succ_of_le g.len⟩
    · rw [e]
      exact List.mem_append_left _ (g.sub p hp)
    · rw [e] at hp
      rcases List.mem_append.mp hp with q | q
      · exact g.all p q
      · rw [List.mem_singleton.mp q]
        exact c
  · have pm := h2 c
    refine ⟨fun p hp => ?_, fun p hp => ?_, ?_⟩
    · rw [e]
      rcases List.mem_cons.mp (pm.mem_iff.mp hp) with q | q
      · rw [q]
        exact List.mem_append_right _ (List.mem_singleton.mpr rfl)
      · exact List.mem_append_left _ (g.sub p q)
    · rw [(pm.map (·.2)).mem_iff, List.map_cons]
      rw [e] at hp
      rcases List.mem_append.mp hp with q | q
      · exact List.mem_cons_of_mem _ (g.all p q)
      · rw [List.mem_singleton.mp q]
        exact List.mem_cons_self
    · rw [pm.length_eq, List.length_cons]
      exact Nat.succ_le_succ g.len
end Rm
/-! Rm, part ZE: sorted(set(xs)) of a list of tuples of numbers and texts. -/
/-! Rm, part ZF: sorted(set(xs)) as a rule, its meaning. -/
/-! Rm, part ZG: {f(k) for k in d} of whole numbers, sorted. -/
/-! Rm, part ZH: the meaning of sorted({f(k) for k in d}). -/
/-! Rm, part ZI: sorted({f(k) for k in d}), joined. -/
/-! Rm, part ZJ: CONST[i] of a written tuple of texts; xs[::-1] of a list or tuple. -/
/-! Rm, part ZK: [.. for k in d ..], the keys tuples; f(k = v, ..) of a def that only reads. -/
/-! Rm, part ZL: steps of the new meanings. -/
/-! Rm, part ZM: xs.index(k), xs a name of a list of whole numbers that is only looked at. -/
/-! Rm, part YP: own operators of two of one class; != by an own __eq__. -/
namespace PySem.W
open Lean Elab Tactic Meta PySem PySem.Calls PyProof.Rows
theorem ne_slot : Slot "object" "__ne__" "object.__ne__" :=
  Slot.of (T := "object") (name := "__ne__") (owner := "object") (n := "__ne__") (by rw [typeLookup_type, builtinLookup_eq_fast]; kernel_rfl) (by decide +kernel) (by decide +kernel) (by decide +kernel) (.inl (by decide +kernel)) (by rw [isSubtype_type]; kernel_rfl)
section
variable {prog : Program} {w : World} {A : Around} {E : Value → Shared → Prop} {s : Shared} {K : Frag} {x C L f : Addr} {h₀ : Heap} {m : Str → Option Value} {ox : Obj} {od : Option Obj} {b tb : Value}
theorem ne_body {Q : Fin → Shared → Prop} (hu : A.units < cLine) (X : K.In s.heap) (I : InstAt s.heap x ox C od) (hs : findIn K (.ref C) "__eq__" = some (some (.ref f))) (hf : isFn K (.ref f) = true)
    (h : wpAny (model prog w) A (call (.ref f) [.ref x, b]) (fun v s' => ∃ k, v = .bool k ∧ Q (.done (.ret (.bool (!k)))) s') E s) : wpAny (model prog w) A (Builtin.«object.__ne__» ⟨[.ref x, b], []⟩) Q E s := by
  unfold Builtin.«object.__ne__» slotArgs
  refine wpAny_bind ?_
  simp only [List.isEmpty_nil, Bool.not_true, Bool.false_eq_true, if_false, List.length_cons, List.length_nil, bne_self_eq_false]
  refine wpAny_pure ?_
  dsimp only
  refine wpAny_bind (wpAny_cRoomFor hu ?_)
  refine wpAny_bind (ifBound_K X I hs hf (wpAny_mono h (fun v s' hv => ?_) fun _ _ z => z))
  obtain ⟨k, rfl, hq⟩ := hv
  dsimp only
  refine wpAny_bind (wpAny_truthy_bool ?_)
  exact wpAny_pure hq
theorem ne_check (I : InstAt s.heap x ox C od) (Y : Makes (model prog w) s.heap C) {Q : Unit → Shared → Prop} (hq : Q () s) : wpAny (model prog w) A (checkBuiltinCall "object.__ne__" ⟨[.ref x, b], []⟩) Q E s := by
  have L1 : Looks (model prog w) s.heap (typeOf (.ref x)) (.ref C) := I.type
  have L2 := Y.top
  have ha := PySem.F.cmpArgs_ne (.ref x) b
  simp only [checkBuiltinCall, PySem.F.cmpKind_ne, PySem.F.cmpSplit_ne]
  refine wpAny_bind ?_
  unfold isInstance
  refine wpAny_bind (L1.here (L2.here ?_))
  simp only [Bool.not_true, Bool.false_eq_true, if_false]
  cases hsig : Manifest.signature? "object.__ne__" with
  | none => exact wpAny_pure hq
  | some sig =>
    simp only [argsOk, hsig] at ha
    show wpAny _ _ (Bind.checkArgs "object.__ne__" sig ⟨[.ref x, b], []⟩) _ _ _
    rw [ha]
    exact wpAny_pure hq
theorem ne_own {Q : Value → Shared → Prop} (hu : A.units + 1 < cLine) (F : Fr h₀ L s.heap m) (X₀ : K.In h₀) (I : InstAt s.heap x ox C od) (hb : Looks (model prog w) s.heap (typeOf b) tb) (hn : notFirst K C tb = true)
    (hne : findIn K (.ref C) "__ne__" = some (some (.builtin "object.__ne__"))) (hm : makesIn K C = true) (hs : findIn K (.ref C) "__eq__" = some (some (.ref f))) (hf : isFn K (.ref f) = true)
    (h : wpAny (model prog w) A.in1 (call (.ref f) [.ref x, b]) (fun v s' => ∃ k, v = .bool k ∧ Q (.bool (!k)) s') E s) : wpAny (model prog w) A (richCompare .NotEq (.ref x) b) Q E s := by
  have X := X₀.keeps F.keep
  have Y : Makes (model prog w) s.heap C := makes_of X hm
  have one : wpAny (model prog w) A (tryCompare (.ref x) "__ne__" b) (fun r s' => ∃ v, r = some v ∧ Q v s') E s := by
    unfold tryCompare
    refine wpAny_bind ?_
    simp only [callSpecialIfBound?, bindSpecialIfBound?]
    refine wpAny_holding (wpAny_bind (wpAny_bind (wpAny_bind (I.type.here ((looks_findIn X hne).here ?_)))))
    refine wpAny_bind (wpAny_askSetting (wpAny_ite ?_))
    have fin : wpAny (model prog w) A (call (.builtin "object.__ne__") ([.ref x] ++ [b]) >>= fun v => pure (some v)) (fun r s' => wpAny (model prog w) A (match r with
        | some .notImplemented | none => pure none
        | some v => pure (some v)) (fun r s' => ∃ v, r = some v ∧ Q v s') E s') E s := by
      refine wpAny_bind (wpAny_call (codeAny_call_builtin ne_slot.plain PySem.F.cmpEntry_ne (ne_check I Y ?_)))
      refine wpAny_mono (ne_body (Nat.lt_of_le_of_lt (Nat.le_refl _) (show A.in1.units < cLine by exact hu)) X I hs hf (Q := fun fin s' => ∃ k, fin = .done (.ret (.bool k)) ∧ Q (.bool k) s') (wpAny_mono h (fun v s' hv => ?_) fun _ _ z => z)) (fun fn s' hv => ?_) (fun _ _ z => z)
      · obtain ⟨k, e, hq⟩ := hv
        exact ⟨k, e, _, rfl, hq⟩
      · obtain ⟨k, rfl, hq⟩ := hv
        exact wpAny_pure (wpAny_pure ⟨_, rfl, hq⟩)
    split
    · exact wpAny_bind ((Looks.of_pure (ne_slot.bind (.ref x))).here (wpAny_pure (by exact fin)))
    · exact wpAny_tryCatch (wpAny_bind ((Looks.of_pure (ne_slot.bind (.ref x))).here (wpAny_pure (by exact fin))))
  unfold richCompare
  simp only [oneThing_ref]
  refine wpAny_holding (wpAny_bind (wpAny_cRoomFor (Nat.lt_of_succ_lt hu) ?_))
  refine wpAny_bind (I.type.here (wpAny_bind (hb.here ?_)))
  split
  · rename_i q
    have e : subIn K tb (.ref C) = some false := by
      rcases Bool.or_eq_true_iff.mp hn with e | e
      · rw [beq_iff_eq.mp e] at q; simp at q
      · exact beq_iff_eq.mp e
    refine wpAny_bind ((looks_subIn X e).here ?_)
    simp only [Bool.false_eq_true, if_false]
    refine wpAny_bind (wpAny_mono one (fun r s' z => ?_) fun _ _ e => e)
    obtain ⟨v, rfl, hq⟩ := z
    exact wpAny_pure hq
  · refine wpAny_bind (wpAny_pure ?_)
    simp only [Bool.false_eq_true, if_false]
    refine wpAny_bind (wpAny_mono one (fun r s' z => ?_) fun _ _ e => e)
    obtain ⟨v, rfl, hq⟩ := z
    exact wpAny_pure hq
end
end PySem.W
/-! Rm, part YQ: a == b, a != b, a | b of two of one own class. -/
namespace Rm
open PySem PySem.Spec L2
open PyProof.Rows hiding St
variable [Tb]
/-- what operators of a class lean on -/
structure OwnOps (K : PySem.W.Frag) (C : Addr) : Prop where
  first : PySem.W.selfFirst K C = true
  mkc : PySem.W.makesIn K C = true
  ne : PySem.W.findIn K (.ref C) "__ne__" = some (some (.builtin "object.__ne__"))
def rOwnCmp (neg : Bool) (C : Addr) (sp : Sp) : R2 := fun x y H Q => match x, y with
  | .ref a, .ref b => (match H a, H b with
    | some (.ins C' _ _), some (.ins D' _ _) => (C' = C ∧ D' = C) ∧ sp [.ref a, .ref b] H (fun r H' => match r with
      | .bl k => Q (.bl (xor neg k)) H'
      | _ => False) L2.E0
    | _, _ => False)
  | _, _ => False
section
variable {X : Cx} {k : Nat} {ps : List Str} {sp : Sp} {m : Str} {pos : Pos} {to te : TE} {W : WX} {C : Addr}
theorem opOwnCmpE (D : MDef X.prog X.w X.K X.mg X.base C "__eq__" ps k sp) (hr : Room k X.A) : OpR X (compareOp .Eq) (rOwnCmp false C sp) := by
  intro pins s σ H x y v u Q I rx ry h
  obtain ⟨f, fd, c, hm, hb, F⟩ := D.ex
  unfold rOwnCmp at h
  split at h
  · rename_i a b
    obtain rfl := (show v = Value.ref a from rx)
    obtain rfl := (show u = Value.ref b from ry)
    split at h
    · rename_i C' dx fs D' dy gs ea eb
      obtain ⟨⟨rfl, rfl⟩, h⟩ := h
      obtain ⟨mA, J, _⟩ := ins_get I.hok ea
      obtain ⟨od, J, _⟩ := J.look
      obtain ⟨mB, J2, _⟩ := ins_get I.hok eb
      obtain ⟨od2, J2, _⟩ := J2.look
      obtain ⟨m, hF⟩ := I.fr
      refine PySem.W.cmp_K (op := .Eq) (tb := .ref D') hr.units0 hF I.ok.mod.kin J J2.type (by unfold PySem.W.notFirst; rw [beq_self_eq_true, Bool.true_or]) hm.at_ hm.fn (wpAny_mono (run_at0 rfl F hr hb I (us := [.ref a, .ref b]) (.cons (show RelV (.ref a) (.ref a) from rfl) (.cons (show RelV (.ref b) (.ref b) from rfl) .nil)) h) (fun r s' z => ?_) fun _ _ z => z)
      obtain ⟨w', H', I', rw', q⟩ := z
      split at q
      · rename_i b
        obtain rfl := (show r = Value.bool b from rw')
        exact ⟨.bl b, H', I', rfl, by simpa using q⟩
      · exact q.elim
    · exact h.elim
  · exact h.elim
theorem opOwnCmpN (D : MDef X.prog X.w X.K X.mg X.base C "__eq__" ps k sp) (O : OwnOps X.K C) (hr : Room (k + 1) X.A) : OpR X (compareOp .NotEq) (rOwnCmp true C sp) := by
  intro pins s σ H x y v u Q I rx ry h
  obtain ⟨f, fd, c, hm, hb, F⟩ := D.ex
  unfold rOwnCmp at h
  split at h
  · rename_i a b
    obtain rfl := (show v = Value.ref a from rx)
    obtain rfl := (show u = Value.ref b from ry)
    split at h
    · rename_i C' dx fs D' dy gs ea eb
      obtain ⟨⟨rfl, rfl⟩, h⟩ := h
      obtain ⟨mA, J, _⟩ := ins_get I.hok ea
      obtain ⟨od, J, _⟩ := J.look
      obtain ⟨mB, J2, _⟩ := ins_get I.hok eb
      obtain ⟨od2, J2, _⟩ := J2.look
      obtain ⟨m, hF⟩ := I.fr
      refine PySem.W.ne_own (tb := .ref D') hr.in1.units0 hF I.ok.mod.kin J J2.type (by unfold PySem.W.notFirst; rw [beq_self_eq_true, Bool.true_or]) O.ne O.mkc hm.at_ hm.fn (wpAny_mono (run_at0 rfl F hr.in1 hb I (us := [.ref a, .ref b]) (.cons (show RelV (.ref a) (.ref a) from rfl) (.cons (show RelV (.ref b) (.ref b) from rfl) .nil)) h) (fun r s' z => ?_) fun _ _ z => z)
      obtain ⟨w', H', I', rw', q⟩ := z
      split at q
      · rename_i b
        obtain rfl := (show r = Value.bool b from rw')
        exact ⟨b, rfl, .bl (!b), H', I', rfl, by simpa using q⟩
      · exact q.elim
    · exact h.elim
  · exact h.elim
end
/-! ### over trees -/
section
variable {c : VC} {W : WX} {r1 r2 : Bool} {to te : TE} {m1 m2 : List Ent → R Ent} {m : List Ent → R Ent}
def pOwnCmp (neg : Bool) (C : Str) (m : List Ent → R Ent) : List T → Option Ent := fun ts => match ts with
  | [x, t] => if (isC C x && isC C t) = true then (match m [argT x, argT t] with
    | .ok e _ => (match e.t with
      | .bl k => oB (xor neg k)
      | _ => none)
    | _ => none) else none
  | _ => none
theorem pr_ownCmp (neg : Bool) (C : Str) (m : List Ent → R Ent) (hm : ∀ ρ, ρ.length ≠ 2 → m ρ = .fail) : Prim c.ca (r2L (rOwnCmp neg (c.ca.cl C) (spV0 c 2 m))) (pOwnCmp neg C m) := ⟨fun P Z H w vs ts Q b o h => by
  unfold pOwnCmp at h
  split at h
  rotate_left
  · exact h.elim
  rename_i x t
  split at h
  rotate_left
  · exact h.elim
  rename_i hc
  rw [Bool.and_eq_true] at hc
  obtain ⟨v, g, u, f, rfl, h1, h2⟩ := o.i2
  obtain ⟨a, dx, fs, rfl, ea⟩ := isC_at b h1 hc.1
  obtain ⟨a2, dx2, fs2, rfl, ea2⟩ := isC_at b h2 hc.2
  simp only [r2L, rOwnCmp, ea, ea2]
  refine ⟨⟨trivial, trivial⟩, spV_prim (ts := [x, t]) hm b (.cons h1 (.cons h2 .nil)) ?_⟩
  show (match m [argT x, argT t] with | .ok e _ => _ | _ => False)
  cases e : m [argT x, argT t] with
  | fail => rw [e] at h; exact h.elim
  | err C d ρ => rw [e] at h; exact h.elim
  | ok en ρ =>
    rw [e] at h
    intro v H' Z' f x z n b' ev
    obtain ⟨g', o'⟩ := ev.ow
    dsimp only at h
    generalize en.t = tr at h o'
    cases tr with
    | bl k =>
      obtain rfl := ow_bl o'
      exact h _ H' Z' [] x z n b'.drop (.own (.bl _))
    | _ => exact h.elim⟩
end
end Rm
/-! Rm, part YR: what the head tells of a class's operators. -/
namespace Rm
open PySem PySem.Spec L2
open PyProof.Rows hiding St
def opsB (K : PySem.W.Frag) (C : Addr) : Bool := PySem.W.selfFirst K C && (PySem.W.makesIn K C && (PySem.W.findIn K (.ref C) "__ne__" == some (some (.builtin "object.__ne__"))))
theorem opsB_ok {K : PySem.W.Frag} {C : Addr} (h : opsB K C = true) : OwnOps K C := by
  unfold opsB at h
  rw [Bool.and_eq_true, Bool.and_eq_true, beq_iff_eq] at h
  exact ⟨h.1, h.2.1, h.2.2⟩
end Rm
/-! Rm, part YS: C.m(k = v), m static; o.m(..), m static. -/
/-! Rm, part YT: a static method asked of an instance, in trees. -/
/-! Rm, part YU: v == x, v of a class of Python's, x of an own class: the reflected `__eq__`. -/
namespace PySem.W
open Lean Elab Tactic Meta PySem PySem.Calls PyProof.Rows
section
variable {M : Model} {A : Around} {E : Value → Shared → Prop} {s : Shared} {K : Frag} {x C dx : Addr}
theorem none_eq_own : wpAny M A (Builtin.«NoneType.__eq__» ⟨[.none, .ref x], []⟩) (fun fin s' => fin = .done (.ret .notImplemented) ∧ s' = s) E s := by
  obtain ⟨hp, g, d, tk, os⟩ := s
  wp_walk
  exact ⟨rfl, rfl⟩
theorem bool_eq_own {b : Bool} (hx : s.heap.get? x = some (instObj C dx)) : wpAny M A (Builtin.«int.__eq__» ⟨[.bool b, .ref x], []⟩) (fun fin s' => fin = .done (.ret .notImplemented) ∧ s' = s) E s := by
  obtain ⟨hp, g, d, tk, os⟩ := s
  unfold instObj at hx
  wp_walk using wpAny_loadPart' hx, wpAny_load hx
  exact ⟨rfl, rfl⟩
theorem int_eq_own {b : Int} {u : Tok} (hx : s.heap.get? x = some (instObj C dx)) : wpAny M A (Builtin.«int.__eq__» ⟨[.int b u, .ref x], []⟩) (fun fin s' => fin = .done (.ret .notImplemented) ∧ s' = s) E s := by
  obtain ⟨hp, g, d, tk, os⟩ := s
  unfold instObj at hx
  wp_walk using wpAny_loadPart' hx, wpAny_load hx
  exact ⟨rfl, rfl⟩
theorem str_eq_own {b : Str} {u : Tok} (hx : s.heap.get? x = some (instObj C dx)) : wpAny M A (Builtin.«str.__eq__» ⟨[.str b u, .ref x], []⟩) (fun fin s' => fin = .done (.ret .notImplemented) ∧ s' = s) E s := by
  obtain ⟨hp, g, d, tk, os⟩ := s
  unfold instObj at hx
  wp_walk using wpAny_loadPart' hx, wpAny_load hx
  exact ⟨rfl, rfl⟩
theorem tuple_eq_own {l : Addr} (X : K.In s.heap) (hx : s.heap.get? x = some (instObj C dx)) (hn : subIn K (.ref C) (.type "tuple") = some false) : wpAny M A (Builtin.«tuple.__eq__» ⟨[.ref l, .ref x], []⟩) (fun fin s' => fin = .done (.ret .notImplemented) ∧ s' = s) E s := by
  have f1 := fun {Q : Bool → Shared → Prop} (q : Q false s) => (looks_subIn (M := M) X hn).here (A := A) (E := E) (Q := Q) q
  obtain ⟨hp, g, d, tk, os⟩ := s
  unfold instObj at hx
  wp_walk using wpAny_loadPart' hx, f1
  exact ⟨rfl, rfl⟩
theorem list_eq_own {l : Addr} (X : K.In s.heap) (hx : s.heap.get? x = some (instObj C dx)) (hn : subIn K (.ref C) (.type "list") = some false) : wpAny M A (Builtin.«list.__eq__» ⟨[.ref l, .ref x], []⟩) (fun fin s' => fin = .done (.ret .notImplemented) ∧ s' = s) E s := by
  have f1 := fun {Q : Bool → Shared → Prop} (q : Q false s) => (looks_subIn (M := M) X hn).here (A := A) (E := E) (Q := Q) q
  obtain ⟨hp, g, d, tk, os⟩ := s
  unfold instObj at hx
  wp_walk using wpAny_loadPart' hx, f1
  exact ⟨rfl, rfl⟩
theorem dict_eq_own {l : Addr} {o : Obj} (X : K.In s.heap) (hl : s.heap.get? l = some o) (hc : o.cls = .type "dict") (hx : s.heap.get? x = some (instObj C dx)) (hn : subIn K (.ref C) (.type "dict") = some false) : wpAny M A (Builtin.«dict.__eq__» ⟨[.ref l, .ref x], []⟩) (fun fin s' => fin = .done (.ret .notImplemented) ∧ s' = s) E s := by
  have f1 := fun {Q : Bool → Shared → Prop} (q : Q false s) => (looks_subIn (M := M) X hn).here (A := A) (E := E) (Q := Q) q
  obtain ⟨hp, g, d, tk, os⟩ := s
  obtain ⟨c, dd, da, sl⟩ := o
  dsimp only at hc
  subst hc
  unfold instObj at hx
  wp_walk using wpAny_loadPart' hx, wpAny_loadPart' hl, f1
  exact ⟨rfl, rfl⟩
end
section
variable {prog : Program} {w : World} {A : Around} {E : Value → Shared → Prop} {s : Shared} {K : Frag} {x C L f : Addr} {h₀ : Heap} {m : Str → Option Value} {dx : Addr} {od : Option Obj} {v : Value}
theorem eq_refl_own {T id : String} {B : Builtin} {Q : Value → Shared → Prop} (hu : A.units < cLine) (F : Fr h₀ L s.heap m) (X₀ : K.In h₀) (I : InstAt s.heap x (instObj C dx) C od) (ht : s.TypeIs v T) (slot : Slot T "__eq__" id)
    (entry : entryFor table id = some B) (args : argsOk id ⟨[v, .ref x], []⟩) (body : wpAny (model prog w) A.in1 (B ⟨[v, .ref x], []⟩) (fun fin s' => fin = .done (.ret .notImplemented) ∧ s' = s) E s)
    (hn : subIn K (.ref C) (.type T) = some false) (hs : findIn K (.ref C) "__eq__" = some (some (.ref f))) (hf : isFn K (.ref f) = true)
    (h : wpAny (model prog w) A (call (.ref f) [.ref x, v]) (CmpBack Q) E s) : wpAny (model prog w) A (richCompare .Eq v (.ref x)) Q E s := by
  have X := X₀.keeps F.keep
  have hc : wpAny (model prog w) A (call (.builtin id) [v, .ref x]) (fun r s' => r = .notImplemented ∧ s' = s) E s :=
    wpAny_call (codeAny_call_builtin slot.plain entry (slot.check _ _ _ _ _ _ _ _ ht args (wpAny_mono body (fun fin s' z => by
      obtain ⟨rfl, rfl⟩ := z
      exact ⟨rfl, rfl⟩) fun _ _ z => z)))
  have one : wpAny (model prog w) A (tryCompare (.ref x) "__eq__" v) (fun r s' => ∃ v, r = some v ∧ Q v s') E s := by
    unfold tryCompare
    refine wpAny_bind (ifBound_K X I hs hf (wpAny_mono h (fun v s' hv => ?_) fun _ _ e => e))
    cases v <;> first | exact hv.elim | exact wpAny_pure ⟨_, rfl, hv⟩
  unfold richCompare
  simp only [ht.oneThing_none]
  refine wpAny_holding (wpAny_bind (wpAny_cRoomFor hu ?_))
  refine wpAny_bind (wpAny_typeOf ht (wpAny_bind (I.type.here ?_)))
  have hne : (Value.type T != Value.ref C) = true := rfl
  simp only [hne, if_true]
  refine wpAny_bind ((looks_subIn X hn).here ?_)
  simp only [Bool.false_eq_true, if_false, Bool.not_false, if_true]
  refine wpAny_bind (wpAny_tryCompare_declines ht slot (wpAny_mono hc (fun r s' z => ?_) fun _ _ z => z))
  obtain ⟨rfl, rfl⟩ := z
  refine ⟨rfl, ?_⟩
  refine wpAny_bind (wpAny_mono one (fun r s' z => ?_) fun _ _ e => e)
  obtain ⟨v, rfl, hq⟩ := z
  exact wpAny_pure hq
end
end PySem.W
/-! Rm, part YV: x == v, v == x and isinstance(v, C), x of an own class, v of a class of Python's. -/
namespace Rm
open PySem PySem.Spec L2
open PyProof.Rows hiding St
variable [Tb]
def tys7 : List String := ["NoneType", "bool", "int", "str", "list", "tuple", "dict"]
structure EqOps (K : PySem.W.Frag) (C : Addr) : Prop where
  sb : ∀ T ∈ tys7, PySem.W.subIn K (.ref C) (.type T) = some false
  kc : (PySem.W.clsIn K C).isSome = true
  ky : PySem.W.typeIn K (.ref C) = some (.type "type")
def eqoB (K : PySem.W.Frag) (C : Addr) : Bool := (tys7.all fun T => PySem.W.subIn K (.ref C) (.type T) == some false) && ((PySem.W.clsIn K C).isSome && PySem.W.typeIn K (.ref C) == some (.type "type"))
theorem eqoB_ok {K : PySem.W.Frag} {C : Addr} (h : eqoB K C = true) : EqOps K C := by
  unfold eqoB at h
  rw [Bool.and_eq_true, Bool.and_eq_true, beq_iff_eq] at h
  exact ⟨fun T q => beq_iff_eq.mp (List.all_eq_true.mp h.1 T q), h.2.1, h.2.2⟩
theorem sub7 {K : PySem.W.Frag} {C : Addr} {T : String} (h : T ∈ tys7) : PySem.W.subIn K (.type T) (.ref C) = some false := by
  simp only [tys7, List.mem_cons, List.not_mem_nil, or_false] at h
  rcases h with e | e | e | e | e | e | e <;> subst e <;> rfl
theorem isi7 {K : PySem.W.Frag} {C : Addr} {T : String} (O : EqOps K C) (h : T ∈ tys7) : PySem.W.kitOne K (.type T) (.ref C) = some false := by
  unfold PySem.W.kitOne PySem.W.kitCls
  rw [if_neg (fun z => nomatch z)]
  dsimp only
  rw [O.kc, O.ky, beq_self_eq_true, Bool.and_self, if_pos rfl]
  exact sub7 h
section
variable {X : Cx} {pins : List (Addr × Obj)} {σ : St} {H : Hp} {s : Shared}
theorem typeIs_of {x : V} {u : Value} {T : String} (I : Inv X pins σ H s) (rx : RelV x u) (ty : TyX X.K H x (.type T)) : s.TypeIs u T := by
  cases ty with
  | base b =>
    cases b with
    | non => cases (show u = Value.none from rx); rfl
    | bl y => cases (show u = Value.bool y from rx); rfl
    | int i => obtain ⟨t, q⟩ := (show ∃ t, u = Value.int i t from rx); cases q; rfl
    | str y => obtain ⟨t, q⟩ := (show ∃ t, u = Value.str y t from rx); cases q; rfl
    | flt y => obtain ⟨t, q⟩ := (show ∃ t, u = Value.float y t from rx); cases q; rfl
    | @lst a xs ea =>
      cases (show u = Value.ref a from rx)
      obtain ⟨_, _, n, _, h1⟩ := (show ObjOk X.prog X.w H s.heap a (.lst xs) from I.hok a _ ea)
      exact ⟨_, h1, rfl⟩
    | @frz a ob xs ea =>
      cases (show u = Value.ref a from rx)
      obtain ⟨_, _, _, n, _, h1⟩ := (show ObjOk X.prog X.w H s.heap a (.frz ob (.lst xs)) from I.hok a _ ea)
      exact ⟨_, h1, rfl⟩
    | @tup a xs ea =>
      cases (show u = Value.ref a from rx)
      obtain ⟨_, _, _, o, h1, h2, _⟩ := (show ObjOk X.prog X.w H s.heap a (.tup xs) from I.hok a _ ea)
      exact ⟨o, h1, h2⟩
    | @dK a kvs ea =>
      cases (show u = Value.ref a from rx)
      obtain ⟨_, _, vs, _, o, es, ep, h1, h2, _⟩ := (show ObjOk X.prog X.w H s.heap a (.dK kvs) from I.hok a _ ea)
      exact ⟨o, h1, h2.1⟩
    | @dT a kvs ea =>
      cases (show u = Value.ref a from rx)
      obtain ⟨_, _, xs, _, o, es, ep, h1, h2, _⟩ := (show ObjOk X.prog X.w H s.heap a (.dT kvs) from I.hok a _ ea)
      exact ⟨o, h1, h2.1⟩
  | byt y => obtain ⟨t, q⟩ := (show ∃ t, u = Value.bytes y t from rx); cases q; rfl
  | @set a S n ea =>
    cases (show u = Value.ref a from rx)
    obtain ⟨o, _, _, _, e, ex, _⟩ := I.hok a _ ea
    exact ⟨o, e, ex.1⟩
  | @kList a o e c => cases (show u = Value.ref a from rx); exact ⟨o, I.kIn a o e, c⟩
  | @kTuple a o e c => cases (show u = Value.ref a from rx); exact ⟨o, I.kIn a o e, c⟩
  | @kDict a o e c => cases (show u = Value.ref a from rx); exact ⟨o, I.kIn a o e, c⟩
  | @fTuple a ob xs ea =>
    cases (show u = Value.ref a from rx)
    obtain ⟨_, _, _, _, o, h1, h2, _⟩ := (show ObjOk X.prog X.w H s.heap a (.frz ob (.tup xs)) from I.hok a _ ea)
    exact ⟨o, h1, h2⟩
  | @fDict a ob kvs ea =>
    cases (show u = Value.ref a from rx)
    obtain ⟨_, _, _, vs, _, o, es, ep, h1, h2, _⟩ := (show ObjOk X.prog X.w H s.heap a (.frz ob (.dK kvs)) from I.hok a _ ea)
    exact ⟨o, h1, h2.1⟩
theorem looks_typeIs {M : Model} {v : Value} {T : String} (h : s.TypeIs v T) : PySem.W.Looks M s.heap (typeOf v) (.type T) := by
  intro A Q E s' k q
  refine wpAny_typeOf ?_ q
  cases v with
  | ref a => obtain ⟨o, e, c⟩ := h; exact ⟨o, k _ _ e, c⟩
  | _ => exact h
end
def rIsiX (C : Addr) : List V → Hp → VK → Prop := fun xs H Q => ∃ x, xs = [x, .ref C] ∧ ((∃ (a dx : Addr) (fs : List (Str × V)), x = .ref a ∧ H a = some (.ins C dx fs) ∧ Q (.bl true) H) ∨ (∃ T, tyN x H = some T ∧ Q (.bl false) H))
theorem callIsiX {X : Cx} {C : Addr} (i : IsiO X.K C C true) (O : EqOps X.K C) : CallR X (.builtin "isinstance") (rIsiX C) := by
  intro pins s σ H xs us Q I r h
  obtain ⟨x, rfl, ⟨a, dx, fs, rfl, e, q⟩ | ⟨T, e, q⟩⟩ := h
  · exact callIsiO i pins s σ H _ us Q I r ⟨a, dx, fs, rfl, e, q⟩
  · obtain ⟨h1, h2⟩ := tyX_of (K := X.K) e
    exact call_isi pins s σ H _ us Q I r ⟨x, .ref C, _, _, _, rfl, .own C, h1, isi7 O h2, q⟩
def rEqOB (C : Addr) (sp : Sp) : R2 := fun x y H Q => match x with
  | .ref a => (match H a with
    | some (.ins C' _ _) => (C' = C ∧ (tyN y H).isSome = true) ∧ sp [.ref a, y] H (fun r H' => match r with
      | .bl k => Q (.bl k) H'
      | _ => False) L2.E0
    | _ => False)
  | _ => False
def rEqBO (C : Addr) (sp : Sp) : R2 := fun x y H Q => rEqOB C sp y x H Q
section
variable {X : Cx} {k : Nat} {ps : List Str} {sp : Sp} {C : Addr}
theorem opEqOB (D : MDef X.prog X.w X.K X.mg X.base C "__eq__" ps k sp) (hr : Room k X.A) : OpR X (compareOp .Eq) (rEqOB C sp) := by
  intro pins s σ H x y v u Q I rx ry h
  obtain ⟨f, fd, c, hm, hb, F⟩ := D.ex
  unfold rEqOB at h
  split at h
  · rename_i a
    obtain rfl := (show v = Value.ref a from rx)
    split at h
    · rename_i C' dx fs ea
      obtain ⟨⟨rfl, hy⟩, h⟩ := h
      obtain ⟨T, eT⟩ := Option.isSome_iff_exists.mp hy
      obtain ⟨h1, h2⟩ := tyX_of (K := X.K) eT
      obtain ⟨mA, J, _⟩ := ins_get I.hok ea
      obtain ⟨od, J, _⟩ := J.look
      obtain ⟨m, hF⟩ := I.fr
      refine PySem.W.cmp_K (op := .Eq) (tb := .type T) hr.units0 hF I.ok.mod.kin J (looks_typeIs (typeIs_of I ry h1)) (by unfold PySem.W.notFirst; rw [sub7 h2]; simp) hm.at_ hm.fn (wpAny_mono (run_at0 rfl F hr hb I (us := [.ref a, u]) (.cons (show RelV (.ref a) (.ref a) from rfl) (.cons ry .nil)) h) (fun r s' z => ?_) fun _ _ z => z)
      obtain ⟨w', H', I', rw', q⟩ := z
      split at q
      · rename_i b
        obtain rfl := (show r = Value.bool b from rw')
        exact ⟨.bl b, H', I', rfl, q⟩
      · exact q.elim
    · exact h.elim
  · exact h.elim
theorem opEqBO (D : MDef X.prog X.w X.K X.mg X.base C "__eq__" ps k sp) (O : EqOps X.K C) (hr : Room k X.A) : OpR X (compareOp .Eq) (rEqBO C sp) := by
  intro pins s σ H y x u v Q I ry rx h
  obtain ⟨f, fd, c, hm, hb, F⟩ := D.ex
  unfold rEqBO rEqOB at h
  split at h
  · rename_i a
    obtain rfl := (show v = Value.ref a from rx)
    split at h
    · rename_i C' dx fs ea
      obtain ⟨⟨rfl, hy⟩, h⟩ := h
      obtain ⟨T, eT⟩ := Option.isSome_iff_exists.mp hy
      obtain ⟨h1, h2⟩ := tyX_of (K := X.K) eT
      obtain ⟨mA, J0, _⟩ := ins_get I.hok ea
      obtain ⟨od, J, _⟩ := J0.look
      obtain ⟨m, hF⟩ := I.fr
      have ht := typeIs_of I ry h1
      have hn := O.sb T h2
      have hx := J.at_
      have hcall : wpAny (model X.prog X.w) X.A (call (.ref f) [.ref a, u]) (PySem.W.CmpBack (EP X pins σ Q)) X.xe s := wpAny_mono (run_at0 rfl F hr hb I (us := [.ref a, u]) (.cons (show RelV (.ref a) (.ref a) from rfl) (.cons ry .nil)) h) (fun r s' z => by
        obtain ⟨w', H', I', rw', q⟩ := z
        split at q
        · rename_i b
          obtain rfl := (show r = Value.bool b from rw')
          exact ⟨.bl b, H', I', rfl, q⟩
        · exact q.elim) fun _ _ z => z
      have X0 := I.ok.mod.kin
      have X1 := X0.keeps hF.keep
      unfold tyN at eT
      split at eT
      · cases eT
        obtain rfl := (show u = Value.none from ry)
        exact PySem.W.eq_refl_own (T := "NoneType") hr.units0 hF X0 J ht PySem.F.slot_NoneType_eq PySem.F.entry_NoneType_eq (PySem.F.args_NoneType_eq_2 _ _) PySem.W.none_eq_own hn hm.at_ hm.fn hcall
      · cases eT
        obtain rfl := (show u = Value.bool _ from ry)
        exact PySem.W.eq_refl_own (T := "bool") hr.units0 hF X0 J ht PySem.F.slot_bool_eq PySem.F.entry_int_eq (PySem.F.args_int_eq_2 _ _) (PySem.W.bool_eq_own hx) hn hm.at_ hm.fn hcall
      · cases eT
        obtain ⟨t, rfl⟩ := (show ∃ t, u = Value.int _ t from ry)
        exact PySem.W.eq_refl_own (T := "int") hr.units0 hF X0 J ht PySem.F.slot_int_eq PySem.F.entry_int_eq (PySem.F.args_int_eq_2 _ _) (PySem.W.int_eq_own hx) hn hm.at_ hm.fn hcall
      · cases eT
        obtain ⟨t, rfl⟩ := (show ∃ t, u = Value.str _ t from ry)
        exact PySem.W.eq_refl_own (T := "str") hr.units0 hF X0 J ht PySem.F.slot_str_eq PySem.F.entry_str_eq (PySem.F.args_str_eq_2 _ _) (PySem.W.str_eq_own hx) hn hm.at_ hm.fn hcall
      · obtain rfl := (show u = Value.ref _ from ry)
        split at eT
        · cases eT
          exact PySem.W.eq_refl_own (T := "list") hr.units0 hF X0 J ht PySem.F.slot_list_eq PySem.F.entry_list_eq (PySem.F.args_list_eq_2 _ _) (PySem.W.list_eq_own X1 hx hn) hn hm.at_ hm.fn hcall
        · cases eT
          exact PySem.W.eq_refl_own (T := "tuple") hr.units0 hF X0 J ht PySem.F.slot_tuple_eq PySem.F.entry_tuple_eq (PySem.F.args_tuple_eq_2 _ _) (PySem.W.tuple_eq_own X1 hx hn) hn hm.at_ hm.fn hcall
        · cases eT
          obtain ⟨o, hl, hc⟩ := ht
          exact PySem.W.eq_refl_own (T := "dict") hr.units0 hF X0 J ⟨o, hl, hc⟩ PySem.F.slot_dict_eq PySem.F.entry_dict_eq (PySem.F.args_dict_eq_2 _ _) (PySem.W.dict_eq_own X1 hl hc hx hn) hn hm.at_ hm.fn hcall
        · cases eT
      · cases eT
    · exact h.elim
  · exact h.elim
end
end Rm
/-! Rm, part YW: == of an own thing and one of Python's, isinstance(x, C), in trees. -/
namespace Rm
open PySem PySem.Spec L2
open PyProof.Rows hiding St
section
variable {c : VC} {W : WX} {r1 : Bool} {t : TE} {mm : List Ent → R Ent}
def pIsiX (C : Str) : List T → Option Ent := fun ts => match ts with
  | [x] => if isC C x = true then oB true else if x.ty.isSome = true then oB false else none
  | _ => none
theorem pr_isiX {ca : Ks} {C : Str} : Prim ca (r1L fun x H Q => rIsiX (ca.cl C) [x, .ref (ca.cl C)] H Q) (pIsiX C) := ⟨fun P Z H w vs ts Q bb o h => by
  unfold pIsiX at h
  split at h
  · rename_i x
    obtain ⟨v, g, rfl, h1⟩ := o.i1
    split at h
    · rename_i hc
      obtain ⟨a, dx, fs, rfl, ea⟩ := isC_at bb h1 hc
      exact ⟨_, rfl, .inl ⟨a, dx, fs, rfl, ea, h.now bb (.own (.bl _))⟩⟩
    · split at h
      · rename_i hy
        obtain ⟨n, e⟩ := Option.isSome_iff_exists.mp hy
        exact ⟨_, rfl, .inr ⟨n, ow_ty bb h1 e, h.now bb (.own (.bl _))⟩⟩
      · exact h.elim
  · exact h.elim⟩
theorem SV.isiX {C : Str} (h : SV c W r1 t mm) : SV c W r1 (tCB (rIsiX (c.ca.cl C)) (tCons t (tCons (tC (.ref (c.ca.cl C))) tNil))) (mPrim (pIsiX C) (mCons true mm mNil)) := SV.un pr_isiX h
end
section
variable {c : VC} {m : List Ent → R Ent}
def pEqOB (C : Str) (m : List Ent → R Ent) : List T → Option Ent := fun ts => match ts with
  | [x, t] => if (isC C x && t.ty.isSome) = true then (match m [argT x, argT t] with
    | .ok e _ => (match e.t with
      | .bl k => oB k
      | _ => none)
    | _ => none) else none
  | _ => none
theorem pr_eqOB (C : Str) (m : List Ent → R Ent) (hm : ∀ ρ, ρ.length ≠ 2 → m ρ = .fail) : Prim c.ca (r2L (rEqOB (c.ca.cl C) (spV0 c 2 m))) (pEqOB C m) := ⟨fun P Z H w vs ts Q b o h => by
  unfold pEqOB at h
  split at h
  rotate_left
  · exact h.elim
  rename_i x t
  split at h
  rotate_left
  · exact h.elim
  rename_i hc
  rw [Bool.and_eq_true] at hc
  obtain ⟨v, g, u, f, rfl, h1, h2⟩ := o.i2
  obtain ⟨a, dx, fs, rfl, ea⟩ := isC_at b h1 hc.1
  obtain ⟨n, e⟩ := Option.isSome_iff_exists.mp hc.2
  have ty := ow_ty b h2 e
  simp only [r2L, rEqOB, ea]
  refine ⟨⟨trivial, by rw [ty]; rfl⟩, spV_prim (ts := [x, t]) hm b (.cons h1 (.cons h2 .nil)) ?_⟩
  show (match m [argT x, argT t] with | .ok e _ => _ | _ => False)
  cases e : m [argT x, argT t] with
  | fail => rw [e] at h; exact h.elim
  | err C d ρ => rw [e] at h; exact h.elim
  | ok en ρ =>
    rw [e] at h
    intro v H' Z' f x z n b' ev
    obtain ⟨g', o'⟩ := ev.ow
    dsimp only at h
    generalize en.t = tr at h o'
    cases tr with
    | bl k =>
      obtain rfl := ow_bl o'
      exact h _ H' Z' [] x z n b'.drop (.own (.bl _))
    | _ => exact h.elim⟩
def pEqBO (C : Str) (m : List Ent → R Ent) : List T → Option Ent := fun ts => match ts with
  | [t, x] => pEqOB C m [x, t]
  | _ => none
theorem pr_eqBO (C : Str) (m : List Ent → R Ent) (hm : ∀ ρ, ρ.length ≠ 2 → m ρ = .fail) : Prim c.ca (r2L (rEqBO (c.ca.cl C) (spV0 c 2 m))) (pEqBO C m) := ⟨fun P Z H w vs ts Q b o h => by
  unfold pEqBO at h
  split at h
  rotate_left
  · exact h.elim
  rename_i t x
  unfold pEqOB at h
  dsimp only at h
  split at h
  rotate_left
  · exact h.elim
  rename_i hc
  rw [Bool.and_eq_true] at hc
  obtain ⟨u, f, v, g, rfl, h2, h1⟩ := o.i2
  obtain ⟨a, dx, fs, rfl, ea⟩ := isC_at b h1 hc.1
  obtain ⟨n, e⟩ := Option.isSome_iff_exists.mp hc.2
  have ty := ow_ty b h2 e
  simp only [r2L, rEqBO, rEqOB, ea]
  refine ⟨⟨trivial, by rw [ty]; rfl⟩, spV_prim (ts := [x, t]) hm b (.cons h1 (.cons h2 .nil)) ?_⟩
  show (match m [argT x, argT t] with | .ok e _ => _ | _ => False)
  cases e : m [argT x, argT t] with
  | fail => rw [e] at h; exact h.elim
  | err C d ρ => rw [e] at h; exact h.elim
  | ok en ρ =>
    rw [e] at h
    intro v H' Z' f x z n b' ev
    obtain ⟨g', o'⟩ := ev.ow
    dsimp only at h
    generalize en.t = tr at h o'
    cases tr with
    | bl k =>
      obtain rfl := ow_bl o'
      exact h _ H' Z' [] x z n b'.drop (.own (.bl _))
    | _ => exact h.elim⟩
end
end Rm
namespace Rm
open PySem PySem.Spec L2
open PyProof.Rows hiding St
abbrev topS (i : Nat) : Stmt := PySem.Challenge.pw_rowmarks_k01_modes_made.main.body.getD i (.Pass ⟨0, 0, 0, 0⟩)
abbrev s_is_mode : Stmt := topS 6
theorem sc_is_mode : FnScope ["value"] ["value"] (defScope s_is_mode) := ⟨rfl, rfl, rfl, by decide +kernel, rfl, by decide +kernel, by decide +kernel⟩
abbrev s_Mode___init__ : Stmt := inClass (topS 9) 0
theorem sc_Mode___init__ : FnScope ["self", "word"] ["self", "word"] (defScope s_Mode___init__) := ⟨rfl, rfl, rfl, by decide +kernel, rfl, by decide +kernel, by decide +kernel⟩
abbrev s_rank_of : Stmt := topS 7
theorem sc_rank_of : FnScope ["word"] ["word"] (defScope s_rank_of) := ⟨rfl, rfl, rfl, by decide +kernel, rfl, by decide +kernel, by decide +kernel⟩
abbrev s_Mode_word : Stmt := inClass (topS 9) 1
theorem sc_Mode_word : FnScope ["self"] ["self"] (defScope s_Mode_word) := ⟨rfl, rfl, rfl, by decide +kernel, rfl, by decide +kernel, by decide +kernel⟩
abbrev s_Mode_rank : Stmt := inClass (topS 9) 2
theorem sc_Mode_rank : FnScope ["self"] ["self"] (defScope s_Mode_rank) := ⟨rfl, rfl, rfl, by decide +kernel, rfl, by decide +kernel, by decide +kernel⟩
abbrev s_Mode___eq__ : Stmt := inClass (topS 9) 6
theorem sc_Mode___eq__ : FnScope ["self", "other"] ["self", "other"] (defScope s_Mode___eq__) := ⟨rfl, rfl, rfl, by decide +kernel, rfl, by decide +kernel, by decide +kernel⟩
def F_is_mode : List Ent → R Ent := mDef [true] 0 (mRet (mBr (mBool (mPrim (pIsi "str") (mCons true (mName 0) mNil))) (mPrim (pInC false [(V.str "hold"), (V.str "keep"), (V.str "change"), (V.str "replace")]) (mCons true (mName 0) mNil)) (mC (.bl false))))
theorem ln_is_mode : ∀ ρ, ρ.length ≠ 1 → F_is_mode ρ = .fail := mDef_len (bs := [true])
def F_Mode___init__ : List Ent → R Ent := mDef [true, true] 0 (mThen (mIf (mBr (mTest T.tru (mCallR F_is_mode (mCons true (mName 1) mNil))) (mPure false) (mPure true)) (mRaise "BadMode" (mName 1)) .nx)
  (mSetF 0 "Mode" "term" (mPlName 0) (mName 1)))
theorem ln_Mode___init__ : ∀ ρ, ρ.length ≠ 2 → F_Mode___init__ ρ = .fail := mDef_len (bs := [true, true])
def F_rank_of : List Ent → R Ent := mDef [true] 0 (mRet (mBr (mTest T.bool (mOp pIs true (mName 0) (mC .non))) (mC (.int (0))) (mOp pAdd true (mPrim (pIdxC ["hold", "keep", "change", "replace"]) (mCons true (mName 0) mNil)) (mC (.int (1))))))
theorem ln_rank_of : ∀ ρ, ρ.length ≠ 1 → F_rank_of ρ = .fail := mDef_len (bs := [true])
def F_Mode_word : List Ent → R Ent := mDef [true] 0 (mRet (mPrim (pFld "Mode" "term") (mCons true (mName 0) mNil)))
theorem ln_Mode_word : ∀ ρ, ρ.length ≠ 1 → F_Mode_word ρ = .fail := mDef_len (bs := [true])
def F_Mode_rank : List Ent → R Ent := mDef [true] 0 (mRet (mCallR F_rank_of (mCons true (mPrim (pFld "Mode" "term") (mCons true (mName 0) mNil)) mNil)))
theorem ln_Mode_rank : ∀ ρ, ρ.length ≠ 1 → F_Mode_rank ρ = .fail := mDef_len (bs := [true])
def F_Mode___eq__ : List Ent → R Ent := mDef [true, true] 0 (mRet (mBr (mBool (mPrim (pIsiX "Mode") (mCons true (mName 1) mNil))) (mOp pEq2 true (mPrim (pFld "Mode" "term") (mCons true (mName 0) mNil)) (mPrim (pFld "Mode" "term") (mCons true (mName 1) mNil))) (mC (.bl false))))
theorem ln_Mode___eq__ : ∀ ρ, ρ.length ≠ 2 → F_Mode___eq__ ρ = .fail := mDef_len (bs := [true, true])
section
variable {P : Program} {w : World} {K : PySem.W.Frag} {mg : Str → Option Value} {base : Heap} {c : VC}
theorem ok_is_mode {f0 : Addr} {fd0 : FuncData} (F : At K mg "is_mode" "is_mode" s_is_mode ["value"] f0 fd0) (B : Bt mg) (C_WORDS : Cst K mg "WORDS" [(V.str "hold"), (V.str "keep"), (V.str "change"), (V.str "replace")]) : Def P w K mg base "is_mode" ["value"] 1 (spV0 c 1 F_is_mode) := by
  refine okD F sc_is_mode (fun vs H Q E h => spV_len h) (fun cdv A outer s H vs Q E hr tk po h => ?_)
  have hu := hu_of hr
  have hu64 := hr.units
  have hc := (show (true : Bool) = true from rfl)
  have nd := sc_is_mode.nd
  refine ⟨_, (pss_one (ps_ret (pe_and (pe_callB callIsi (by rfl) B.isinstance boot_isinstance (pa_cons (pn 0) (pa_cons (pe_bltn (v := .ty "str") (by rfl) B.str boot_str rfl) pa_nil))) (pe_one (pe_inC (pn 0) (pc_cst C_WORDS) gC_m))))), ?_⟩
  exact body_ok (pin := [0]) (bs := [true]) (k := 0) (mb := (mRet (mBr (mBool (mPrim (pIsi "str") (mCons true (mName 0) mNil))) (mPrim (pInC false [(V.str "hold"), (V.str "keep"), (V.str "change"), (V.str "replace")]) (mCons true (mName 0) mNil)) (mC (.bl false))))) (show SS ⟨c.base, [0], L2.start ["value"] vs⟩ (fun cls d _ H => E cls d H) _ _ from (SS.ret (SV.and (SV.isi "str" sv_name) (SV.inC false gC_x sv_name)))) (by decide) rfl h
theorem fo_Mode___init__ {f0 : Addr} {fd0 : FuncData} (F : AtI K mg "Mode" (c.ca.cl "Mode") "__init__" "Mode.__init__" s_Mode___init__ ["self", "word"] f0 fd0) (B : Bt mg) (E_BadMode : EDef P w K mg base "BadMode" (c.ca.cl "BadMode") (c.ef "BadMode")) (cl_Mode : Cls K (c.ca.cl "Mode")) (na_Mode_term : NoAttr K (c.ca.cl "Mode") "term") (D_is_mode : Def P w K mg base "is_mode" ["value"] 1 (spV0 c 1 F_is_mode)) : FnOk P w K mg base (L2.CX P w) 3 f0 fd0 ["self", "word"] (spV0 c 2 F_Mode___init__) := by
  refine okF F.fn sc_Mode___init__ (fun vs H Q E h => spV_len h) (fun cdv A outer s H vs Q E hr tk po h => ?_)
  have hu := hu_of hr
  have hu64 := hr.units
  have hc := (show (true : Bool) = true from rfl)
  have nd := sc_Mode___init__.nd
  refine ⟨_, (pss_cons (ps_if (pt_not (pt_tru (pe_fn D_is_mode (hr.mono (by decide)) tk (pa_cons (pn 1) pa_nil)))) (pss_one (ps_err E_BadMode hc (hr.mono (by decide)) tk (pn 1))) pss_nil)
      (pss_one (ps_f cl_Mode na_Mode_term (pn 0) (pn 1)))), ?_⟩
  exact body_ok (pin := [0, 1]) (bs := [true, true]) (k := 0) (mb := (mThen (mIf (mBr (mTest T.tru (mCallR F_is_mode (mCons true (mName 1) mNil))) (mPure false) (mPure true)) (mRaise "BadMode" (mName 1)) .nx)
  (mSetF 0 "Mode" "term" (mPlName 0) (mName 1)))) (show SS ⟨c.base, [0, 1], L2.start ["self", "word"] vs⟩ (fun cls d _ H => E cls d H) _ _ from (SS.seq (SS.ifs (ST.not (SV.truth (SV.callR ln_is_mode (SA.cons sv_name SA.nil)))) (SS.raise "BadMode" sv_name) SS.next)
      (SS.setF "Mode" "term" (SPl.name 0) sv_name))) (by decide) rfl h
theorem ok_Mode___init__ {f0 : Addr} {fd0 : FuncData} (F : AtI K mg "Mode" (c.ca.cl "Mode") "__init__" "Mode.__init__" s_Mode___init__ ["self", "word"] f0 fd0) (B : Bt mg) (E_BadMode : EDef P w K mg base "BadMode" (c.ca.cl "BadMode") (c.ef "BadMode")) (cl_Mode : Cls K (c.ca.cl "Mode")) (na_Mode_term : NoAttr K (c.ca.cl "Mode") "term") (D_is_mode : Def P w K mg base "is_mode" ["value"] 1 (spV0 c 1 F_is_mode)) : CDef P w K mg base "Mode" (c.ca.cl "Mode") ["self", "word"] 3 (spV0 c 2 F_Mode___init__) := ⟨f0, fd0, F.mg, F.init, F.b, fo_Mode___init__ F B E_BadMode cl_Mode na_Mode_term D_is_mode⟩
theorem ok_rank_of {f0 : Addr} {fd0 : FuncData} (F : At K mg "rank_of" "rank_of" s_rank_of ["word"] f0 fd0) (B : Bt mg) (CN_WORDS : CstN K mg "WORDS" ["hold", "keep", "change", "replace"]) (C_WORDS : Cst K mg "WORDS" [(V.str "hold"), (V.str "keep"), (V.str "change"), (V.str "replace")]) : Def P w K mg base "rank_of" ["word"] 1 (spV0 c 1 F_rank_of) := by
  refine okD F sc_rank_of (fun vs H Q E h => spV_len h) (fun cdv A outer s H vs Q E hr tk po h => ?_)
  have hu := hu_of hr
  have hu64 := hr.units
  have hc := (show (true : Bool) = true from rfl)
  have nd := sc_rank_of.nd
  refine ⟨_, (pss_one (ps_ret (pe_ifExp (pt_cmpR opIs (pn 0) pe_non (nomark _)) pe_int (pe_op opAdd (pe_idxC CN_WORDS (pn 0)) pe_int)))), ?_⟩
  exact body_ok (pin := [0]) (bs := [true]) (k := 0) (mb := (mRet (mBr (mTest T.bool (mOp pIs true (mName 0) (mC .non))) (mC (.int (0))) (mOp pAdd true (mPrim (pIdxC ["hold", "keep", "change", "replace"]) (mCons true (mName 0) mNil)) (mC (.int (1))))))) (show SS ⟨c.base, [0], L2.start ["word"] vs⟩ (fun cls d _ H => E cls d H) _ _ from (SS.ret (ST.ife (SV.test (SV.op pr_is sv_name (sv_c fun _ _ _ => .non))) (sv_c fun _ _ _ => .int _) (SV.op pr_add (SV.idxC (ys := ["hold", "keep", "change", "replace"]) sv_name) (sv_c fun _ _ _ => .int _))))) (by decide) rfl h
theorem fo_Mode_word {p0 f0 : Addr} {fd0 : FuncData} (F : AtP K (c.ca.cl "Mode") "word" "Mode.word" s_Mode_word p0 f0 fd0) (B : Bt mg) (cl_Mode : Cls K (c.ca.cl "Mode")) (na_Mode_term : NoAttr K (c.ca.cl "Mode") "term") : FnOk P w K mg base (L2.CX P w) 1 f0 fd0 ["self"] (spV0 c 1 F_Mode_word) := by
  refine okF F.fn sc_Mode_word (fun vs H Q E h => spV_len h) (fun cdv A outer s H vs Q E hr tk po h => ?_)
  have hu := hu_of hr
  have hu64 := hr.units
  have hc := (show (true : Bool) = true from rfl)
  have nd := sc_Mode_word.nd
  refine ⟨_, (pss_one (ps_ret (pe_f cl_Mode na_Mode_term (pn 0)))), ?_⟩
  exact body_ok (pin := [0]) (bs := [true]) (k := 0) (mb := (mRet (mPrim (pFld "Mode" "term") (mCons true (mName 0) mNil)))) (show SS ⟨c.base, [0], L2.start ["self"] vs⟩ (fun cls d _ H => E cls d H) _ _ from (SS.ret (SV.fld "Mode" "term" sv_name))) (by decide) rfl h
theorem ok_Mode_word {p0 f0 : Addr} {fd0 : FuncData} (F : AtP K (c.ca.cl "Mode") "word" "Mode.word" s_Mode_word p0 f0 fd0) (B : Bt mg) (cl_Mode : Cls K (c.ca.cl "Mode")) (na_Mode_term : NoAttr K (c.ca.cl "Mode") "term") : PDef P w K mg base (c.ca.cl "Mode") "word" 1 (spV0 c 1 F_Mode_word) := ⟨p0, f0, fd0, F.c, F.pr, F.b, fo_Mode_word F B cl_Mode na_Mode_term⟩
theorem fo_Mode_rank {p0 f0 : Addr} {fd0 : FuncData} (F : AtP K (c.ca.cl "Mode") "rank" "Mode.rank" s_Mode_rank p0 f0 fd0) (B : Bt mg) (cl_Mode : Cls K (c.ca.cl "Mode")) (na_Mode_term : NoAttr K (c.ca.cl "Mode") "term") (D_rank_of : Def P w K mg base "rank_of" ["word"] 1 (spV0 c 1 F_rank_of)) : FnOk P w K mg base (L2.CX P w) 2 f0 fd0 ["self"] (spV0 c 1 F_Mode_rank) := by
  refine okF F.fn sc_Mode_rank (fun vs H Q E h => spV_len h) (fun cdv A outer s H vs Q E hr tk po h => ?_)
  have hu := hu_of hr
  have hu64 := hr.units
  have hc := (show (true : Bool) = true from rfl)
  have nd := sc_Mode_rank.nd
  refine ⟨_, (pss_one (ps_ret (pe_fn D_rank_of (hr.mono (by decide)) tk (pa_cons (pe_f cl_Mode na_Mode_term (pn 0)) pa_nil)))), ?_⟩
  exact body_ok (pin := [0]) (bs := [true]) (k := 0) (mb := (mRet (mCallR F_rank_of (mCons true (mPrim (pFld "Mode" "term") (mCons true (mName 0) mNil)) mNil)))) (show SS ⟨c.base, [0], L2.start ["self"] vs⟩ (fun cls d _ H => E cls d H) _ _ from (SS.ret (SV.callR ln_rank_of (SA.cons (SV.fld "Mode" "term" sv_name) SA.nil)))) (by decide) rfl h
theorem ok_Mode_rank {p0 f0 : Addr} {fd0 : FuncData} (F : AtP K (c.ca.cl "Mode") "rank" "Mode.rank" s_Mode_rank p0 f0 fd0) (B : Bt mg) (cl_Mode : Cls K (c.ca.cl "Mode")) (na_Mode_term : NoAttr K (c.ca.cl "Mode") "term") (D_rank_of : Def P w K mg base "rank_of" ["word"] 1 (spV0 c 1 F_rank_of)) : PDef P w K mg base (c.ca.cl "Mode") "rank" 2 (spV0 c 1 F_Mode_rank) := ⟨p0, f0, fd0, F.c, F.pr, F.b, fo_Mode_rank F B cl_Mode na_Mode_term D_rank_of⟩
theorem fo_Mode___eq__ {f0 : Addr} {fd0 : FuncData} (F : AtM K (c.ca.cl "Mode") "__eq__" "__eq__" "Mode.__eq__" s_Mode___eq__ ["self", "other"] f0 fd0) (B : Bt mg) (IO_Mode_Mode : IsiO K (c.ca.cl "Mode") (c.ca.cl "Mode") true) (MG_Mode : mg "Mode" = some (.ref (c.ca.cl "Mode"))) (EQ_Mode : EqOps K (c.ca.cl "Mode")) (cl_Mode : Cls K (c.ca.cl "Mode")) (na_Mode_term : NoAttr K (c.ca.cl "Mode") "term") : FnOk P w K mg base (L2.CX P w) 1 f0 fd0 ["self", "other"] (spV0 c 2 F_Mode___eq__) := by
  refine okF F.fn sc_Mode___eq__ (fun vs H Q E h => spV_len h) (fun cdv A outer s H vs Q E hr tk po h => ?_)
  have hu := hu_of hr
  have hu64 := hr.units
  have hc := (show (true : Bool) = true from rfl)
  have nd := sc_Mode___eq__.nd
  refine ⟨_, (pss_one (ps_ret (pe_and (pe_callB (callIsiX IO_Mode_Mode EQ_Mode) (by rfl) B.isinstance boot_isinstance (pa_cons (pn 1) (pa_cons (pe_glob (by rfl) MG_Mode (show RelV (.ref _) (.ref _) from rfl) (by decide)) pa_nil))) (pe_one (pe_cmpR (opEqT hu64) (pe_f cl_Mode na_Mode_term (pn 0)) (pe_f cl_Mode na_Mode_term (pn 1)) (nomark _)))))), ?_⟩
  exact body_ok (pin := [0, 1]) (bs := [true, true]) (k := 0) (mb := (mRet (mBr (mBool (mPrim (pIsiX "Mode") (mCons true (mName 1) mNil))) (mOp pEq2 true (mPrim (pFld "Mode" "term") (mCons true (mName 0) mNil)) (mPrim (pFld "Mode" "term") (mCons true (mName 1) mNil))) (mC (.bl false))))) (show SS ⟨c.base, [0, 1], L2.start ["self", "other"] vs⟩ (fun cls d _ H => E cls d H) _ _ from (SS.ret (SV.and (SV.isiX sv_name) (SV.op pr_eq2 (SV.fld "Mode" "term" sv_name) (SV.fld "Mode" "term" sv_name))))) (by decide) rfl h
theorem ok_Mode___eq__ {f0 : Addr} {fd0 : FuncData} (F : AtM K (c.ca.cl "Mode") "__eq__" "__eq__" "Mode.__eq__" s_Mode___eq__ ["self", "other"] f0 fd0) (B : Bt mg) (IO_Mode_Mode : IsiO K (c.ca.cl "Mode") (c.ca.cl "Mode") true) (MG_Mode : mg "Mode" = some (.ref (c.ca.cl "Mode"))) (EQ_Mode : EqOps K (c.ca.cl "Mode")) (cl_Mode : Cls K (c.ca.cl "Mode")) (na_Mode_term : NoAttr K (c.ca.cl "Mode") "term") : MDef P w K mg base (c.ca.cl "Mode") "__eq__" ["self", "other"] 1 (spV0 c 2 F_Mode___eq__) := ⟨f0, fd0, F.c, F.m, F.b, fo_Mode___eq__ F B IO_Mode_Mode MG_Mode EQ_Mode cl_Mode na_Mode_term⟩
end
end Rm
/-! Rm, part ZU: x[:e], e one that may change things. -/
namespace Rm
open PySem PySem.Spec L2
open PyProof.Rows hiding St
abbrev s_law_tape : Stmt := topS 11
theorem sc_law_tape : FnScope ["_law_script", "_law_start", "_law_mixed", "_law_cell", "_law_digits"] ["_law_script", "_law_start"] (defScope s_law_tape) := ⟨rfl, rfl, rfl, by decide +kernel, rfl, by decide +kernel, by decide +kernel⟩
abbrev s_law_pick : Stmt := topS 12
theorem sc_law_pick : FnScope ["_law_tape_here", "_law_many", "_law_found", "_law_once"] ["_law_tape_here", "_law_many"] (defScope s_law_pick) := ⟨rfl, rfl, rfl, by decide +kernel, rfl, by decide +kernel, by decide +kernel⟩
abbrev s_law_one_of : Stmt := topS 13
theorem sc_law_one_of : FnScope ["_law_tape_here", "_law_items"] ["_law_tape_here", "_law_items"] (defScope s_law_one_of) := ⟨rfl, rfl, rfl, by decide +kernel, rfl, by decide +kernel, by decide +kernel⟩
abbrev s_law_any : Stmt := topS 14
theorem sc_law_any : FnScope ["_law_tape_here", "_law_some"] ["_law_tape_here"] (defScope s_law_any) := ⟨rfl, rfl, rfl, by decide +kernel, rfl, by decide +kernel, by decide +kernel⟩
abbrev s_law_made : Stmt := topS 15
theorem sc_law_made : FnScope ["_law_value", "_law_found", "e"] ["_law_value"] (defScope s_law_made) := ⟨rfl, rfl, rfl, by decide +kernel, rfl, by decide +kernel, by decide +kernel⟩
abbrev s_law : Stmt := topS 16
theorem sc_law : FnScope ["_law_script", "_law_ranks", "_law_start", "_law_tape_here", "_law_turn", "_law_value", "_law_word", "_law_at", "_law_sign", "_law_due", "_law_seen", "_law_words", "_law_mates", "_law_other", "_law_unlike"] ["_law_script"] (defScope s_law) := ⟨rfl, rfl, rfl, by decide +kernel, rfl, by decide +kernel, by decide +kernel⟩
def F_law_tape : List Ent → R Ent := mDef [true, true] 3 (mThen (mSet 2 (mOp pAdd true (mC (.int (89))) (mOp pMul true (mName 1) (mC (.int (37))))))
  (mThen (mFor (mItV (mName 0)) (gmName 3) (mSet 2 (mOp pAdd true (mOp pMod true (mPrim pInt (mCons true (mOp pPow true (mOp pAdd true (mOp pAdd true (mOp pMul true (mName 2) (mC (.int (30013)))) (mOp pMul true (mName 3) (mName 3))) (mC (.int (11)))) (mC (.int (2)))) mNil)) (mC (.int (2147483563)))) (mC (.int (2))))))
  (mThen (mSet 4 (mBr (mBr (mTest T.bool (mOp pLt true (mName 1) (mPrim pLen (mCons true (mName 0) mNil)))) (mTest T.bool (mOp pGe true (mOp pItem true (mName 0) (mName 1)) (mOp pPow true (mC (.int (10))) (mC (.int (18)))))) (mPure false)) (mOp pSub true (mOp pItem true (mName 0) (mName 1)) (mOp pPow true (mC (.int (10))) (mC (.int (18))))) (mC (.int (0)))))
  (mRet (mDisp (mDCons (mC (.str "digits")) (mName 4) (mDCons (mC (.str "mixed")) (mName 2) mDNil)))))))
theorem ln_law_tape : ∀ ρ, ρ.length ≠ 2 → F_law_tape ρ = .fail := mDef_len (bs := [true, true])
def F_law_pick : List Ent → R Ent := mDef [true, true] 2 (mThen (mIf (mTest T.bool (mOp pGe true (mOp pItem true (mName 0) (mC (.str "digits"))) (mName 1))) (mThen (mSet 2 (mOp pMod true (mPrim pInt (mCons true (mOp pItem true (mName 0) (mC (.str "digits"))) mNil)) (mName 1)))
  (mThen (mSetI 0 (mPlName 0) (mC (.str "digits")) (mOp pDiv true (mOp pItem true (mName 0) (mC (.str "digits"))) (mName 1)))
  (mRet (mMove 2)))) .nx)
  (mThen (mSetI 0 (mPlName 0) (mC (.str "mixed")) (mOp pMod true (mPrim pInt (mCons true (mOp pAdd true (mOp pMul true (mOp pItem true (mName 0) (mC (.str "mixed"))) (mC (.int (40014)))) (mC (.int (1017)))) mNil)) (mC (.int (2147483563)))))
  (mThen (mSet 3 (mOp pMod true (mPrim pInt (mCons true (mOp pPow true (mOp pItem true (mName 0) (mC (.str "mixed"))) (mC (.int (2)))) mNil)) (mC (.int (2147483399)))))
  (mRet (mOp pMod true (mPrim pInt (mCons true (mOp pDiv true (mOp pMod true (mPrim pInt (mCons true (mOp pPow true (mName 3) (mC (.int (3)))) mNil)) (mC (.int (998244353)))) (mC (.int (7)))) mNil)) (mName 1))))))
theorem ln_law_pick : ∀ ρ, ρ.length ≠ 2 → F_law_pick ρ = .fail := mDef_len (bs := [true, true])
def F_law_one_of : List Ent → R Ent := mDef [true, true] 0 (mRet (mOp pItem false (mName 1) (mCallW [.io 0, .val] F_law_pick (mKNo 0 (mCons false (mPrim pLen (mCons true (mName 1) mNil)) mNil)))))
theorem ln_law_one_of : ∀ ρ, ρ.length ≠ 2 → F_law_one_of ρ = .fail := mDef_len (bs := [true, true])
def F_law_any : List Ent → R Ent := mDef [true] 1 (mThen (mAsg (mC (enc (.list [.none, (.bool true), (.bool false), (.int (0)), (.int (1)), (.int (2)), (.int (7)), (.int (0 - 1)), (.int (10 ^ ((40 : Int)).toNat)), (.str ""), (.str "a"), (.str "x"), (.str "hold"), (.str "locks"), (.str "Hold"), (.str "change ")]))) (gmName 1))
  (mThen (mAsg (mOp pAdd true (mName 1) (mC (enc (.list [(.str "abcdefg"), (.tuple []), (.list []), (.dict []), (.tuple [(.int (1))]), (.list [(.int (1))]), (.dict [(keyD (.inr "x"), (.int (1)))]), (.tuple [(.int (1)), (.str "locks"), (.str "hold")]), (.tuple [(.str "hold")]), (.list [(.str "hold")]), (.str "1")])))) (gmName 1))
  (mRet (mCallW [.io 0, .val] F_law_one_of (mKNo 0 (mCons false (mName 1) mNil))))))
theorem ln_law_any : ∀ ρ, ρ.length ≠ 1 → F_law_any ρ = .fail := mDef_len (bs := [true])
def F_law_made : List Ent → R Ent := mDef [true] 2 (mThen (mTryAs 2 "BadMode" "value" [] (mSet 1 (mNew "Mode" [.val] F_Mode___init__ (mCons false (mName 0) mNil))) (mRet (mLst (mCons true (mC (.str "bad")) (mCons true (mExc "value" 2) mNil)))))
  (mRet (mLst (mCons true (mC (.str "made")) (mCons true (mPrim (pProp "Mode" F_Mode_word) (mCons true (mName 1) mNil)) (mCons true (mPrim (pProp "Mode" F_Mode_rank) (mCons true (mName 1) mNil)) mNil))))))
theorem ln_law_made : ∀ ρ, ρ.length ≠ 1 → F_law_made ρ = .fail := mDef_len (bs := [true])
def F_law : List Ent → R Ent := mDef [true] 14 (mThen (mAsg (mDisp (mDCons (mC (.str "hold")) (mC (.int (1))) (mDCons (mC (.str "keep")) (mC (.int (2))) (mDCons (mC (.str "change")) (mC (.int (3))) (mDCons (mC (.str "replace")) (mC (.int (4))) mDNil))))) (gmName 1))
  (mThen (mFor (mRange1 (mPrim pMax (mCons true (mC (.int (1))) (mCons true (mPrim pMin (mCons true (mC (.int (3))) (mCons true (mPrim pLen (mCons true (mName 0) mNil)) mNil))) mNil)))) (gmName 2) (mThen (mSet 3 (mCallR F_law_tape (mCons true (mName 0) (mCons true (mName 2) mNil))))
  (mFor (mRange1 (mC (.int (12)))) (gmName 4) (mThen (mSet 5 (mCallW [.io 3] F_law_any (mKNo 3 mNil)))
  (mThen (mIf (mTest T.bool (mOp pEq2 true (mCallW [.io 3, .val] F_law_pick (mKNo 3 (mCons false (mC (.int (3))) mNil))) (mC (.int (0))))) (mThen (mAsg (mCallW [.io 3, .val] F_law_one_of (mKNo 3 (mCons false (mFz (mPrim pListD (mCons true (mName 1) mNil))) mNil))) (gmName 6))
  (mThen (mPar 7 8 (mCons false (mCallW [.io 3, .val] F_law_pick (mKNo 3 (mCons false (mFz (mOp pAdd true (mPrim pLen (mCons true (mName 6) mNil)) (mC (.int (1))))) mNil))) (mCons true (mCallW [.io 3, .val] F_law_one_of (mKNo 3 (mCons false (mC (enc (.list [(.str ""), (.str " "), (.str "e"), (.str "H")]))) mNil))) mNil)))
  (mSet 5 (mOp pAdd true (mOp pAdd true (mSlice (mName 6) (mPure none) (mPart (mName 7))) (mName 8)) (mSlice (mName 6) (mPart (mName 7)) (mPure none)))))) .nx)
  (mThen (mSet 9 (mLst (mCons true (mC (.str "bad")) (mCons true (mName 5) mNil))))
  (mThen (mIf (mBr (mTest T.tru (mPrim (pIsi "str") (mCons true (mName 5) mNil))) (mTest T.bool (mOp (pMem false) true (mName 5) (mName 1))) (mPure false)) (mSet 9 (mLst (mCons true (mC (.str "made")) (mCons true (mName 5) (mCons true (mOp pItem true (mName 1) (mName 5)) mNil))))) .nx)
  (mThen (mSet 10 (mPrim pRepr (mCons true (mName 5) mNil)))
  (mThen (mIf (mBr (mTest T.bool (mOp pNe true (mPrim pRepr (mCons true (mCallR F_law_made (mCons true (mName 5) mNil)) mNil)) (mPrim pRepr (mCons true (mName 9) mNil)))) (mPure true) (mTest T.bool (mOp pNe true (mPrim pRepr (mCons true (mName 5) mNil)) (mName 10)))) (mRet (mC (.bl false))) .nx)
  (mForK (mdName 1) (gmName 6) (mIf (mBr (mTest T.bool (mOp pNe true (mPrim pRepr (mCons true (mOp (pEqOB "Mode" F_Mode___eq__) true (mNew "Mode" [.val] F_Mode___init__ (mCons false (mName 6) mNil)) (mName 5)) mNil)) (mC (.str "False")))) (mPure true) (mTest T.bool (mOp pIs true (mOp (pEqBO "Mode" F_Mode___eq__) false (mName 5) (mNew "Mode" [.val] F_Mode___init__ (mCons false (mName 6) mNil))) (mC (.bl true))))) (mRet (mC (.bl false))) .nx)))))))))))
  (mThen (mAsg (mPrim pListD (mCons true (mName 1) mNil)) (gmName 11))
  (mThen (mFor (mItV (mName 11)) (gmName 6) (mThen (mSet 12 (mLc [13] (mItV (mName 11)) (gmName 13) (mTest T.bool (mOp (pOwnCmp false "Mode" F_Mode___eq__) false (mNew "Mode" [.val] F_Mode___init__ (mCons false (mName 6) mNil)) (mNew "Mode" [.val] F_Mode___init__ (mCons false (mName 13) mNil)))) (mName 13)))
  (mThen (mSet 14 (mLc [13] (mItV (mName 11)) (gmName 13) (mTest T.bool (mOp (pOwnCmp true "Mode" F_Mode___eq__) false (mNew "Mode" [.val] F_Mode___init__ (mCons false (mName 6) mNil)) (mNew "Mode" [.val] F_Mode___init__ (mCons false (mName 13) mNil)))) (mName 13)))
  (mIf (mBr (mTest T.bool (mOp pNe true (mName 12) (mLst (mCons true (mName 6) mNil)))) (mPure true) (mTest T.bool (mOp pNe true (mPrim pLen (mCons true (mName 14) mNil)) (mC (.int (3)))))) (mRet (mC (.bl false))) .nx))))
  (mRet (mC (.bl true)))))))
section
variable {P : Program} {w : World} {K : PySem.W.Frag} {mg : Str → Option Value} {base : Heap} {c : VC}
theorem ok_law_tape {f0 : Addr} {fd0 : FuncData} (F : At K mg "_law_tape" "_law_tape" s_law_tape ["_law_script", "_law_start"] f0 fd0) (B : Bt mg)  : Def P w K mg base "_law_tape" ["_law_script", "_law_start"] 1 (spV0 c 2 F_law_tape) := by
  refine okD F sc_law_tape (fun vs H Q E h => spV_len h) (fun cdv A outer s H vs Q E hr tk po h => ?_)
  have hu := hu_of hr
  have hu64 := hr.units
  have hc := (show (true : Bool) = true from rfl)
  have nd := sc_law_tape.nd
  refine ⟨_, (pss_cons (ps_set (i := 2) nd rfl (Or.inl rfl) (pe_op opAdd pe_int (pe_op opMul (pn 1) pe_int)))
      (pss_cons (ps_for po hc (pi_any (pn 0)) (pg_name (i := 3) nd rfl (Or.inl rfl)) (pss_one (ps_set (i := 2) nd rfl (Or.inl rfl) (pe_op opAdd (pe_op opMod (pe_callTy callInt (by rfl) B.int boot_int (pa_cons (pe_op opPow (pe_op opAdd (pe_op opAdd (pe_op opMul (pn 2) pe_int) (pe_op opMul (pn 3) (pn 3))) pe_int) pe_int) pa_nil)) pe_int) pe_int))))
      (pss_cons (ps_set (i := 4) nd rfl (Or.inl rfl) (pe_ifExp (PW.pt (pw_and (pt_cmpR opLt (pn 1) (pe_callB callLen (by rfl) B.len bt_len (pa_cons (pn 0) pa_nil)) (nomark _)) (pw_and1 (pt_cmpR opGe (pe_ix (ixItem hu) (pn 0) (pn 1) (fun _ _ => rfl)) (pe_op opPow pe_int pe_int) (nomark _))))) (pe_op opSub (pe_ix (ixItem hu) (pn 0) (pn 1) (fun _ _ => rfl)) (pe_op opPow pe_int pe_int)) pe_int))
      (pss_one (ps_ret (pe_disp (pps_cons pe_str (pn 4) (pps_cons pe_str (pn 2) pps_nil)) (by rfl) (by rfl) (fun z => by cases z) (by decide))))))), ?_⟩
  exact body_ok (pin := [0, 1]) (bs := [true, true]) (k := 3) (mb := (mThen (mSet 2 (mOp pAdd true (mC (.int (89))) (mOp pMul true (mName 1) (mC (.int (37))))))
  (mThen (mFor (mItV (mName 0)) (gmName 3) (mSet 2 (mOp pAdd true (mOp pMod true (mPrim pInt (mCons true (mOp pPow true (mOp pAdd true (mOp pAdd true (mOp pMul true (mName 2) (mC (.int (30013)))) (mOp pMul true (mName 3) (mName 3))) (mC (.int (11)))) (mC (.int (2)))) mNil)) (mC (.int (2147483563)))) (mC (.int (2))))))
  (mThen (mSet 4 (mBr (mBr (mTest T.bool (mOp pLt true (mName 1) (mPrim pLen (mCons true (mName 0) mNil)))) (mTest T.bool (mOp pGe true (mOp pItem true (mName 0) (mName 1)) (mOp pPow true (mC (.int (10))) (mC (.int (18)))))) (mPure false)) (mOp pSub true (mOp pItem true (mName 0) (mName 1)) (mOp pPow true (mC (.int (10))) (mC (.int (18))))) (mC (.int (0)))))
  (mRet (mDisp (mDCons (mC (.str "digits")) (mName 4) (mDCons (mC (.str "mixed")) (mName 2) mDNil)))))))) (show SS ⟨c.base, [0, 1], L2.start ["_law_script", "_law_start", "_law_mixed", "_law_cell", "_law_digits"] vs⟩ (fun cls d _ H => E cls d H) _ _ from (SS.seq (SS.set 2 (show 2 ∉ ([0, 1] : List Nat) by decide) (SV.op pr_add (sv_c fun _ _ _ => .int _) (SV.op pr_mul sv_name (sv_c fun _ _ _ => .int _))))
      (SS.seq (SS.for_ (SI.any sv_name) (SG.name 3 (show 3 ∉ ([0, 1] : List Nat) by decide)) (SS.set 2 (show 2 ∉ ([0, 1] : List Nat) by decide) (SV.op pr_add (SV.op pr_mod (SV.cb pr_int (SA.cons (SV.op pr_pow (SV.op pr_add (SV.op pr_add (SV.op pr_mul sv_name (sv_c fun _ _ _ => .int _)) (SV.op pr_mul sv_name sv_name)) (sv_c fun _ _ _ => .int _)) (sv_c fun _ _ _ => .int _)) SA.nil)) (sv_c fun _ _ _ => .int _)) (sv_c fun _ _ _ => .int _))))
      (SS.seq (SS.set 4 (show 4 ∉ ([0, 1] : List Nat) by decide) (ST.ife (ST.and (SV.test (SV.op pr_lt sv_name (SV.cb pr_len (SA.cons sv_name SA.nil)))) (SV.test (SV.op pr_ge (SV.op pr_item sv_name sv_name) (SV.op pr_pow (sv_c fun _ _ _ => .int _) (sv_c fun _ _ _ => .int _))))) (SV.op pr_sub (SV.op pr_item sv_name sv_name) (SV.op pr_pow (sv_c fun _ _ _ => .int _) (sv_c fun _ _ _ => .int _))) (sv_c fun _ _ _ => .int _)))
      (SS.ret (SV.disp (SD.cons (sv_c fun _ _ _ => .str _) sv_name (SD.cons (sv_c fun _ _ _ => .str _) sv_name SD.nil)))))))) (by decide) rfl h
theorem ok_law_pick {f0 : Addr} {fd0 : FuncData} (F : At K mg "_law_pick" "_law_pick" s_law_pick ["_law_tape_here", "_law_many"] f0 fd0) (B : Bt mg)  : Def P w K mg base "_law_pick" ["_law_tape_here", "_law_many"] 1 (spV0 c 2 F_law_pick) := by
  refine okD F sc_law_pick (fun vs H Q E h => spV_len h) (fun cdv A outer s H vs Q E hr tk po h => ?_)
  have hu := hu_of hr
  have hu64 := hr.units
  have hc := (show (true : Bool) = true from rfl)
  have nd := sc_law_pick.nd
  refine ⟨_, (pss_cons (ps_if (pt_cmpR opGe (pe_ix (ixItem hu) (pn 0) pe_str (fun _ _ => rfl)) (pn 1) (nomark _)) (pss_cons (ps_set (i := 2) nd rfl (Or.inl rfl) (pe_op opMod (pe_callTy callInt (by rfl) B.int boot_int (pa_cons (pe_ix (ixItem hu) (pn 0) pe_str (fun _ _ => rfl)) pa_nil)) (pn 1)))
      (pss_cons (ps_asg (pe_op opDiv (pe_ix (ixItem hu) (pn 0) pe_str (fun _ _ => rfl)) (pn 1)) (pg_sub (pn 0) pe_str (setStore hu)))
      (pss_one (ps_ret (pn 2))))) pss_nil)
      (pss_cons (ps_asg (pe_op opMod (pe_callTy callInt (by rfl) B.int boot_int (pa_cons (pe_op opAdd (pe_op opMul (pe_ix (ixItem hu) (pn 0) pe_str (fun _ _ => rfl)) pe_int) pe_int) pa_nil)) pe_int) (pg_sub (pn 0) pe_str (setStore hu)))
      (pss_cons (ps_set (i := 3) nd rfl (Or.inl rfl) (pe_op opMod (pe_callTy callInt (by rfl) B.int boot_int (pa_cons (pe_op opPow (pe_ix (ixItem hu) (pn 0) pe_str (fun _ _ => rfl)) pe_int) pa_nil)) pe_int))
      (pss_one (ps_ret (pe_op opMod (pe_callTy callInt (by rfl) B.int boot_int (pa_cons (pe_op opDiv (pe_op opMod (pe_callTy callInt (by rfl) B.int boot_int (pa_cons (pe_op opPow (pn 3) pe_int) pa_nil)) pe_int) pe_int) pa_nil)) (pn 1))))))), ?_⟩
  exact body_ok (pin := [0, 1]) (bs := [true, true]) (k := 2) (mb := (mThen (mIf (mTest T.bool (mOp pGe true (mOp pItem true (mName 0) (mC (.str "digits"))) (mName 1))) (mThen (mSet 2 (mOp pMod true (mPrim pInt (mCons true (mOp pItem true (mName 0) (mC (.str "digits"))) mNil)) (mName 1)))
  (mThen (mSetI 0 (mPlName 0) (mC (.str "digits")) (mOp pDiv true (mOp pItem true (mName 0) (mC (.str "digits"))) (mName 1)))
  (mRet (mMove 2)))) .nx)
  (mThen (mSetI 0 (mPlName 0) (mC (.str "mixed")) (mOp pMod true (mPrim pInt (mCons true (mOp pAdd true (mOp pMul true (mOp pItem true (mName 0) (mC (.str "mixed"))) (mC (.int (40014)))) (mC (.int (1017)))) mNil)) (mC (.int (2147483563)))))
  (mThen (mSet 3 (mOp pMod true (mPrim pInt (mCons true (mOp pPow true (mOp pItem true (mName 0) (mC (.str "mixed"))) (mC (.int (2)))) mNil)) (mC (.int (2147483399)))))
  (mRet (mOp pMod true (mPrim pInt (mCons true (mOp pDiv true (mOp pMod true (mPrim pInt (mCons true (mOp pPow true (mName 3) (mC (.int (3)))) mNil)) (mC (.int (998244353)))) (mC (.int (7)))) mNil)) (mName 1))))))) (show SS ⟨c.base, [0, 1], L2.start ["_law_tape_here", "_law_many", "_law_found", "_law_once"] vs⟩ (fun cls d _ H => E cls d H) _ _ from (SS.seq (SS.ifs (SV.test (SV.op pr_ge (SV.op pr_item sv_name (sv_c fun _ _ _ => .str _)) sv_name)) (SS.seq (SS.set 2 (show 2 ∉ ([0, 1] : List Nat) by decide) (SV.op pr_mod (SV.cb pr_int (SA.cons (SV.op pr_item sv_name (sv_c fun _ _ _ => .str _)) SA.nil)) sv_name))
      (SS.seq (SS.setI (SPl.name 0) (sv_c fun _ _ _ => .str _) (SV.op pr_div (SV.op pr_item sv_name (sv_c fun _ _ _ => .str _)) sv_name))
      (SS.ret sv_move))) SS.next)
      (SS.seq (SS.setI (SPl.name 0) (sv_c fun _ _ _ => .str _) (SV.op pr_mod (SV.cb pr_int (SA.cons (SV.op pr_add (SV.op pr_mul (SV.op pr_item sv_name (sv_c fun _ _ _ => .str _)) (sv_c fun _ _ _ => .int _)) (sv_c fun _ _ _ => .int _)) SA.nil)) (sv_c fun _ _ _ => .int _)))
      (SS.seq (SS.set 3 (show 3 ∉ ([0, 1] : List Nat) by decide) (SV.op pr_mod (SV.cb pr_int (SA.cons (SV.op pr_pow (SV.op pr_item sv_name (sv_c fun _ _ _ => .str _)) (sv_c fun _ _ _ => .int _)) SA.nil)) (sv_c fun _ _ _ => .int _)))
      (SS.ret (SV.op pr_mod (SV.cb pr_int (SA.cons (SV.op pr_div (SV.op pr_mod (SV.cb pr_int (SA.cons (SV.op pr_pow sv_name (sv_c fun _ _ _ => .int _)) SA.nil)) (sv_c fun _ _ _ => .int _)) (sv_c fun _ _ _ => .int _)) SA.nil)) sv_name)))))) (by decide) rfl h
theorem ok_law_one_of {f0 : Addr} {fd0 : FuncData} (F : At K mg "_law_one_of" "_law_one_of" s_law_one_of ["_law_tape_here", "_law_items"] f0 fd0) (B : Bt mg) (D_law_pick : Def P w K mg base "_law_pick" ["_law_tape_here", "_law_many"] 1 (spV0 c 2 F_law_pick)) : Def P w K mg base "_law_one_of" ["_law_tape_here", "_law_items"] 2 (spV0 c 2 F_law_one_of) := by
  refine okD F sc_law_one_of (fun vs H Q E h => spV_len h) (fun cdv A outer s H vs Q E hr tk po h => ?_)
  have hu := hu_of hr
  have hu64 := hr.units
  have hc := (show (true : Bool) = true from rfl)
  have nd := sc_law_one_of.nd
  refine ⟨_, (pss_one (ps_ret (pe_ix (ixItem hu) (pn 1) (pe_fn D_law_pick (hr.mono (by decide)) tk (pa_cons (pn 0) (pa_cons (pe_callB callLen (by rfl) B.len bt_len (pa_cons (pn 1) pa_nil)) pa_nil))) (fun _ _ => rfl)))), ?_⟩
  exact body_ok (pin := [0, 1]) (bs := [true, true]) (k := 0) (mb := (mRet (mOp pItem false (mName 1) (mCallW [.io 0, .val] F_law_pick (mKNo 0 (mCons false (mPrim pLen (mCons true (mName 1) mNil)) mNil)))))) (show SS ⟨c.base, [0, 1], L2.start ["_law_tape_here", "_law_items"] vs⟩ (fun cls d _ H => E cls d H) _ _ from (SS.ret (SV.op pr_item sv_name (SV.callW ln_law_pick (SK.io 0 (SK.val (SV.cb pr_len (SA.cons sv_name SA.nil)) SK.nil)))))) (by decide) rfl h
theorem ok_law_any {f0 : Addr} {fd0 : FuncData} (F : At K mg "_law_any" "_law_any" s_law_any ["_law_tape_here"] f0 fd0) (B : Bt mg) (D_law_one_of : Def P w K mg base "_law_one_of" ["_law_tape_here", "_law_items"] 2 (spV0 c 2 F_law_one_of)) : Def P w K mg base "_law_any" ["_law_tape_here"] 3 (spV0 c 1 F_law_any) := by
  refine okD F sc_law_any (fun vs H Q E h => spV_len h) (fun cdv A outer s H vs Q E hr tk po h => ?_)
  have hu := hu_of hr
  have hu64 := hr.units
  have hc := (show (true : Bool) = true from rfl)
  have nd := sc_law_any.nd
  refine ⟨_, (pss_cons (ps_set (i := 1) nd rfl (Or.inl rfl) (li_lst (la_cons li_non (la_cons li_bl (la_cons li_bl (la_cons li_int (la_cons li_int (la_cons li_int (la_cons li_int (la_cons (li_num (pe_op opSub pe_int pe_int) (fun _ _ _ q => q)) (la_cons (li_num (pe_op opPow pe_int pe_int) (fun _ _ _ q => ⟨⟨by decide, by decide⟩, q⟩)) (la_cons li_str (la_cons li_str (la_cons li_str (la_cons li_str (la_cons li_str (la_cons li_str (la_cons li_str la_nil))))))))))))))))))
      (pss_cons (ps_set (i := 1) nd rfl (Or.inl rfl) (pe_op opAdd (pn 1) (li_lst (la_cons li_str (la_cons (li_tup la_nil) (la_cons (li_lst la_nil) (la_cons li_dict0 (la_cons (li_tup (la_cons li_int la_nil)) (la_cons (li_lst (la_cons li_int la_nil)) (la_cons (li_dict1 (kk := .inr "x") pe_str li_int) (la_cons (li_tup (la_cons li_int (la_cons li_str (la_cons li_str la_nil)))) (la_cons (li_tup (la_cons li_str la_nil)) (la_cons (li_lst (la_cons li_str la_nil)) (la_cons li_str la_nil))))))))))))))
      (pss_one (ps_ret (pe_fn D_law_one_of (hr.mono (by decide)) tk (pa_cons (pn 0) (pa_cons (pn 1) pa_nil))))))), ?_⟩
  exact body_ok (pin := [0]) (bs := [true]) (k := 1) (mb := (mThen (mAsg (mC (enc (.list [.none, (.bool true), (.bool false), (.int (0)), (.int (1)), (.int (2)), (.int (7)), (.int (0 - 1)), (.int (10 ^ ((40 : Int)).toNat)), (.str ""), (.str "a"), (.str "x"), (.str "hold"), (.str "locks"), (.str "Hold"), (.str "change ")]))) (gmName 1))
  (mThen (mAsg (mOp pAdd true (mName 1) (mC (enc (.list [(.str "abcdefg"), (.tuple []), (.list []), (.dict []), (.tuple [(.int (1))]), (.list [(.int (1))]), (.dict [(keyD (.inr "x"), (.int (1)))]), (.tuple [(.int (1)), (.str "locks"), (.str "hold")]), (.tuple [(.str "hold")]), (.list [(.str "hold")]), (.str "1")])))) (gmName 1))
  (mRet (mCallW [.io 0, .val] F_law_one_of (mKNo 0 (mCons false (mName 1) mNil))))))) (show SS ⟨c.base, [0], L2.start ["_law_tape_here", "_law_some"] vs⟩ (fun cls d _ H => E cls d H) _ _ from (SS.seq (SS.asg sv_lit (SG.name 1 (show 1 ∉ ([0] : List Nat) by decide)))
      (SS.seq (SS.asg (SV.op pr_add sv_name sv_lit) (SG.name 1 (show 1 ∉ ([0] : List Nat) by decide)))
      (SS.ret (SV.callW ln_law_one_of (SK.io 0 (SK.val sv_name SK.nil))))))) (by decide) rfl h
theorem ok_law_made {f0 : Addr} {fd0 : FuncData} (F : At K mg "_law_made" "_law_made" s_law_made ["_law_value"] f0 fd0) (B : Bt mg) (E_BadMode : EDef P w K mg base "BadMode" (c.ca.cl "BadMode") (c.ef "BadMode")) (xm_BadMode : PySem.W.exmOne K (.ref (c.ca.cl "BadMode")) (.ref (c.ca.cl "BadMode")) = some true) (ef_BadMode : c.ef "BadMode" = "value") (I_Mode : CDef P w K mg base "Mode" (c.ca.cl "Mode") ["self", "word"] 3 (spV0 c 2 F_Mode___init__)) (P_Mode_word : PDef P w K mg base (c.ca.cl "Mode") "word" 1 (spV0 c 1 F_Mode_word)) (P_Mode_rank : PDef P w K mg base (c.ca.cl "Mode") "rank" 2 (spV0 c 1 F_Mode_rank)) : Def P w K mg base "_law_made" ["_law_value"] 5 (spV0 c 1 F_law_made) := by
  refine okD F sc_law_made (fun vs H Q E h => spV_len h) (fun cdv A outer s H vs Q E hr tk po h => ?_)
  have hu := hu_of hr
  have hu64 := hr.units
  have hc := (show (true : Bool) = true from rfl)
  have nd := sc_law_made.nd
  refine ⟨_, (pss_cons (ps_tryA (i := 2) rfl rfl nd rfl rfl (nameE E_BadMode (by rfl)) tk (fun _ _ _ tkT po => (pss_one (ps_set (i := 1) nd rfl (Or.inl rfl) (pe_C I_Mode (hr.mono (by decide)) tkT (pa_cons (pn 0) pa_nil))))) (fun _ _ _ _ _ hz hfl => (pss_one (ps_ret (pe_lst (pa_cons pe_str (pa_cons (pe_xf E_BadMode.xf (ef_BadMode ▸ E_BadMode.no) hz hfl (pn 2)) pa_nil)))))))
      (pss_one (ps_ret (pe_lst (pa_cons pe_str (pa_cons (pe_p P_Mode_word (hr.mono (by decide)) (pn 1)) (pa_cons (pe_p P_Mode_rank (hr.mono (by decide)) (pn 1)) pa_nil))))))), ?_⟩
  exact body_ok (pin := [0]) (bs := [true]) (k := 2) (mb := (mThen (mTryAs 2 "BadMode" "value" [] (mSet 1 (mNew "Mode" [.val] F_Mode___init__ (mCons false (mName 0) mNil))) (mRet (mLst (mCons true (mC (.str "bad")) (mCons true (mExc "value" 2) mNil)))))
  (mRet (mLst (mCons true (mC (.str "made")) (mCons true (mPrim (pProp "Mode" F_Mode_word) (mCons true (mName 1) mNil)) (mCons true (mPrim (pProp "Mode" F_Mode_rank) (mCons true (mName 1) mNil)) mNil))))))) (show SS ⟨c.base, [0], L2.start ["_law_value", "_law_found", "e"] vs⟩ (fun cls d _ H => E cls d H) _ _ from (SS.seq (SS.tryA (c := c) (xs := []) (show 2 ∉ ([0] : List Nat) by decide) ef_BadMode xm_BadMode (fun _ h => nomatch h) (fun _ => (SS.set 1 (show 1 ∉ ([0] : List Nat) by decide) (SV.new "Mode" ln_Mode___init__ (SK.val sv_name SK.nil)))) (fun _ _ => (SS.ret (SV.lst (SA.cons (sv_c fun _ _ _ => .str _) (SA.cons sv_xf SA.nil))))))
      (SS.ret (SV.lst (SA.cons (sv_c fun _ _ _ => .str _) (SA.cons (SV.prop "Mode" ln_Mode_word sv_name) (SA.cons (SV.prop "Mode" ln_Mode_rank sv_name) SA.nil))))))) (by decide) rfl h
theorem ok_law {f0 : Addr} {fd0 : FuncData} (F : At K mg "law" "law" s_law ["_law_script"] f0 fd0) (B : Bt mg) (I_Mode : CDef P w K mg base "Mode" (c.ca.cl "Mode") ["self", "word"] 3 (spV0 c 2 F_Mode___init__)) (M_Mode_eq : MDef P w K mg base (c.ca.cl "Mode") "__eq__" ["self", "other"] 1 (spV0 c 2 F_Mode___eq__)) (EQ_Mode : EqOps K (c.ca.cl "Mode")) (OP_Mode : OwnOps K (c.ca.cl "Mode")) (D_law_tape : Def P w K mg base "_law_tape" ["_law_script", "_law_start"] 1 (spV0 c 2 F_law_tape)) (D_law_any : Def P w K mg base "_law_any" ["_law_tape_here"] 3 (spV0 c 1 F_law_any)) (D_law_pick : Def P w K mg base "_law_pick" ["_law_tape_here", "_law_many"] 1 (spV0 c 2 F_law_pick)) (D_law_one_of : Def P w K mg base "_law_one_of" ["_law_tape_here", "_law_items"] 2 (spV0 c 2 F_law_one_of)) (D_law_made : Def P w K mg base "_law_made" ["_law_value"] 5 (spV0 c 1 F_law_made)) : DefG P w K mg base "law" ["_law_script"] 6 (spV0 c 1 F_law) := by
  refine okDG F sc_law (fun vs H Q E h => spV_len h) (fun cdv A outer s H vs Q E hG hr tk po h => ?_)
  have hu := hu_of hr
  have hu64 := hr.units
  have hc := (show (true : Bool) = true from rfl)
  have nd := sc_law.nd
  have hu100 := room100 hr
  refine ⟨_, (pss_cons (ps_set (i := 1) nd rfl (Or.inl rfl) (pe_disp (pps_cons pe_str pe_int (pps_cons pe_str pe_int (pps_cons pe_str pe_int (pps_cons pe_str pe_int pps_nil)))) (by rfl) (by rfl) (fun z => by cases z) (by decide)))
      (pss_cons (ps_for po hc (pi_range1 (by rfl) B.range (pa_cons (pe_callB (callMax hc) (by rfl) B.max bt_max (pa_cons pe_int (pa_cons (pe_callB (callMin hc) (by rfl) B.min bt_min (pa_cons pe_int (pa_cons (pe_callB callLen (by rfl) B.len bt_len (pa_cons (pn 0) pa_nil)) pa_nil))) pa_nil))) pa_nil)) (pg_name (i := 2) nd rfl (Or.inl rfl)) (pss_cons (ps_set (i := 3) nd rfl (Or.inl rfl) (pe_fn D_law_tape (hr.mono (by decide)) tk (pa_cons (pn 0) (pa_cons (pn 2) pa_nil))))
      (pss_one (ps_for po hc (pi_range1 (by rfl) B.range (pa_cons pe_int pa_nil)) (pg_name (i := 4) nd rfl (Or.inl rfl)) (pss_cons (ps_set (i := 5) nd rfl (Or.inl rfl) (pe_fn D_law_any (hr.mono (by decide)) tk (pa_cons (pn 3) pa_nil)))
      (pss_cons (ps_if (pt_cmpR (opEqT hu64) (pe_fn D_law_pick (hr.mono (by decide)) tk (pa_cons (pn 3) (pa_cons pe_int pa_nil))) pe_int (nomark _)) (pss_cons (ps_set (i := 6) nd rfl (Or.inr rfl) (pe_fn D_law_one_of (hr.mono (by decide)) tk (pa_cons (pn 3) (pa_cons (pe_callTy (call_listD hc) (by rfl) B.list boot_list (pa_cons (pn 1) pa_nil)) pa_nil))))
      (pss_cons (ps_par (i := 7) (j := 8) (by rfl) nd rfl rfl (by decide) rfl rfl (pa_cons (pe_fn D_law_pick (hr.mono (by decide)) tk (pa_cons (pn 3) (pa_cons (pe_op opAdd (pe_callB callLen (by rfl) B.len bt_len (pa_cons (pn 6) pa_nil)) pe_int) pa_nil))) (pa_cons (pe_fn D_law_one_of (hr.mono (by decide)) tk (pa_cons (pn 3) (pa_cons (li_lst (la_cons li_str (la_cons li_str (la_cons li_str (la_cons li_str la_nil))))) pa_nil))) pa_nil)) (by rfl))
      (pss_one (ps_set (i := 5) nd rfl (Or.inl rfl) (pe_op opAdd (pe_op opAdd (pe_slice slSlice (pn 6) po_none (po_some (pn 7))) (pn 8)) (pe_slice slSlice (pn 6) (po_some (pn 7)) po_none)))))) pss_nil)
      (pss_cons (ps_set (i := 9) nd rfl (Or.inl rfl) (pe_lst (pa_cons pe_str (pa_cons (pn 5) pa_nil))))
      (pss_cons (ps_if (PW.pt (pw_and (pt_tru (pe_callB callIsi (by rfl) B.isinstance boot_isinstance (pa_cons (pn 5) (pa_cons (pe_bltn (v := .ty "str") (by rfl) B.str boot_str rfl) pa_nil)))) (pw_and1 (pt_cmpR (opIn hu) (pn 5) (pn 1) rfl)))) (pss_one (ps_set (i := 9) nd rfl (Or.inl rfl) (pe_lst (pa_cons pe_str (pa_cons (pn 5) (pa_cons (pe_ix (ixItem hu) (pn 1) (pn 5) (fun _ _ => rfl)) pa_nil)))))) pss_nil)
      (pss_cons (ps_set (i := 10) nd rfl (Or.inl rfl) (pe_callB (call_repr hG hu100) (by rfl) B.repr boot_repr (pa_cons (pn 5) pa_nil)))
      (pss_cons (ps_if (PW.pt (pw_or (pt_cmpR (opNeS hu64) (pe_callB (call_repr hG hu100) (by rfl) B.repr boot_repr (pa_cons (pe_fn D_law_made (hr.mono (by decide)) tk (pa_cons (pn 5) pa_nil)) pa_nil)) (pe_callB (call_repr hG hu100) (by rfl) B.repr boot_repr (pa_cons (pn 9) pa_nil)) (nomark _)) (pw_or1 (pt_cmpR (opNeS hu64) (pe_callB (call_repr hG hu100) (by rfl) B.repr boot_repr (pa_cons (pn 5) pa_nil)) (pn 10) (nomark _))))) (pss_one (ps_ret pe_bl)) pss_nil)
      (pss_one (ps_lk (ps_for po hc (pi_keys (pn 1)) (pg_name (i := 6) nd rfl (Or.inr rfl)) (pss_one (ps_if (PW.pt (pw_or (pt_cmpR (opNeS hu64) (pe_callB (call_repr hG hu100) (by rfl) B.repr boot_repr (pa_cons (pe_cmpR (opEqOB M_Mode_eq (hr.mono (by decide))) (pe_C I_Mode (hr.mono (by decide)) tk (pa_cons (pn 6) pa_nil)) (pn 5) (nomark _)) pa_nil)) pe_str (nomark _)) (pw_or1 (pt_cmpR opIs (pe_cmpR (opEqBO M_Mode_eq EQ_Mode (hr.mono (by decide))) (pn 5) (pe_C I_Mode (hr.mono (by decide)) tk (pa_cons (pn 6) pa_nil)) (nomark _)) pe_bl (nomark _))))) (pss_one (ps_ret pe_bl)) pss_nil)))))))))))))))
      (pss_cons (ps_set (i := 11) nd rfl (Or.inl rfl) (pe_callTy (call_listD hc) (by rfl) B.list boot_list (pa_cons (pn 1) pa_nil)))
      (pss_cons (ps_for po hc (pi_any (pn 11)) (pg_name (i := 6) nd rfl (Or.inr rfl)) (pss_cons (ps_setLc (i := 12) (own := [("_law_other", 13)]) hc nd rfl rfl (sw_true rfl rfl rfl (by decide +kernel)) (pi_any (pn 11)) (blkOk_by (own := [("_law_other", 13)]) (N := ["_law_script", "_law_ranks", "_law_start", "_law_tape_here", "_law_turn", "_law_value", "_law_word", "_law_at", "_law_sign", "_law_due", "_law_seen", "_law_words", "_law_mates", "_law_other", "_law_unlike"]) (sc := defScope s_law) (by decide +kernel)) (fun _ _ _ _ _ => (pg_name (i := 13) nd rfl (Or.inl rfl))) (fun _ _ _ _ _ => pts_one (pt_cmpR (opOwnCmpE M_Mode_eq (hr.mono (by decide))) (pe_C I_Mode (hr.mono (by decide)) tkF (pa_cons (pn 6) pa_nil)) (pe_C I_Mode (hr.mono (by decide)) tkF (pa_cons (pn 13) pa_nil)) (nomark _))) (fun _ _ _ _ _ => (pn 13)))
      (pss_cons (ps_setLc (i := 14) (own := [("_law_other", 13)]) hc nd rfl rfl (sw_true rfl rfl rfl (by decide +kernel)) (pi_any (pn 11)) (blkOk_by (own := [("_law_other", 13)]) (N := ["_law_script", "_law_ranks", "_law_start", "_law_tape_here", "_law_turn", "_law_value", "_law_word", "_law_at", "_law_sign", "_law_due", "_law_seen", "_law_words", "_law_mates", "_law_other", "_law_unlike"]) (sc := defScope s_law) (by decide +kernel)) (fun _ _ _ _ _ => (pg_name (i := 13) nd rfl (Or.inl rfl))) (fun _ _ _ _ _ => pts_one (pt_cmpR (opOwnCmpN M_Mode_eq OP_Mode (hr.mono (by decide))) (pe_C I_Mode (hr.mono (by decide)) tkF (pa_cons (pn 6) pa_nil)) (pe_C I_Mode (hr.mono (by decide)) tkF (pa_cons (pn 13) pa_nil)) (nomark _))) (fun _ _ _ _ _ => (pn 13)))
      (pss_one (ps_if (PW.pt (pw_or (pt_cmpR (opNeS hu64) (pn 12) (pe_lst (pa_cons (pn 6) pa_nil)) (nomark _)) (pw_or1 (pt_cmpR (opNeS hu64) (pe_callB callLen (by rfl) B.len bt_len (pa_cons (pn 14) pa_nil)) pe_int (nomark _))))) (pss_one (ps_ret pe_bl)) pss_nil)))))
      (pss_one (ps_ret pe_bl)))))), ?_⟩
  exact body_ok (pin := [0]) (bs := [true]) (k := 14) (mb := (mThen (mAsg (mDisp (mDCons (mC (.str "hold")) (mC (.int (1))) (mDCons (mC (.str "keep")) (mC (.int (2))) (mDCons (mC (.str "change")) (mC (.int (3))) (mDCons (mC (.str "replace")) (mC (.int (4))) mDNil))))) (gmName 1))
  (mThen (mFor (mRange1 (mPrim pMax (mCons true (mC (.int (1))) (mCons true (mPrim pMin (mCons true (mC (.int (3))) (mCons true (mPrim pLen (mCons true (mName 0) mNil)) mNil))) mNil)))) (gmName 2) (mThen (mSet 3 (mCallR F_law_tape (mCons true (mName 0) (mCons true (mName 2) mNil))))
  (mFor (mRange1 (mC (.int (12)))) (gmName 4) (mThen (mSet 5 (mCallW [.io 3] F_law_any (mKNo 3 mNil)))
  (mThen (mIf (mTest T.bool (mOp pEq2 true (mCallW [.io 3, .val] F_law_pick (mKNo 3 (mCons false (mC (.int (3))) mNil))) (mC (.int (0))))) (mThen (mAsg (mCallW [.io 3, .val] F_law_one_of (mKNo 3 (mCons false (mFz (mPrim pListD (mCons true (mName 1) mNil))) mNil))) (gmName 6))
  (mThen (mPar 7 8 (mCons false (mCallW [.io 3, .val] F_law_pick (mKNo 3 (mCons false (mFz (mOp pAdd true (mPrim pLen (mCons true (mName 6) mNil)) (mC (.int (1))))) mNil))) (mCons true (mCallW [.io 3, .val] F_law_one_of (mKNo 3 (mCons false (mC (enc (.list [(.str ""), (.str " "), (.str "e"), (.str "H")]))) mNil))) mNil)))
  (mSet 5 (mOp pAdd true (mOp pAdd true (mSlice (mName 6) (mPure none) (mPart (mName 7))) (mName 8)) (mSlice (mName 6) (mPart (mName 7)) (mPure none)))))) .nx)
  (mThen (mSet 9 (mLst (mCons true (mC (.str "bad")) (mCons true (mName 5) mNil))))
  (mThen (mIf (mBr (mTest T.tru (mPrim (pIsi "str") (mCons true (mName 5) mNil))) (mTest T.bool (mOp (pMem false) true (mName 5) (mName 1))) (mPure false)) (mSet 9 (mLst (mCons true (mC (.str "made")) (mCons true (mName 5) (mCons true (mOp pItem true (mName 1) (mName 5)) mNil))))) .nx)
  (mThen (mSet 10 (mPrim pRepr (mCons true (mName 5) mNil)))
  (mThen (mIf (mBr (mTest T.bool (mOp pNe true (mPrim pRepr (mCons true (mCallR F_law_made (mCons true (mName 5) mNil)) mNil)) (mPrim pRepr (mCons true (mName 9) mNil)))) (mPure true) (mTest T.bool (mOp pNe true (mPrim pRepr (mCons true (mName 5) mNil)) (mName 10)))) (mRet (mC (.bl false))) .nx)
  (mForK (mdName 1) (gmName 6) (mIf (mBr (mTest T.bool (mOp pNe true (mPrim pRepr (mCons true (mOp (pEqOB "Mode" F_Mode___eq__) true (mNew "Mode" [.val] F_Mode___init__ (mCons false (mName 6) mNil)) (mName 5)) mNil)) (mC (.str "False")))) (mPure true) (mTest T.bool (mOp pIs true (mOp (pEqBO "Mode" F_Mode___eq__) false (mName 5) (mNew "Mode" [.val] F_Mode___init__ (mCons false (mName 6) mNil))) (mC (.bl true))))) (mRet (mC (.bl false))) .nx)))))))))))
  (mThen (mAsg (mPrim pListD (mCons true (mName 1) mNil)) (gmName 11))
  (mThen (mFor (mItV (mName 11)) (gmName 6) (mThen (mSet 12 (mLc [13] (mItV (mName 11)) (gmName 13) (mTest T.bool (mOp (pOwnCmp false "Mode" F_Mode___eq__) false (mNew "Mode" [.val] F_Mode___init__ (mCons false (mName 6) mNil)) (mNew "Mode" [.val] F_Mode___init__ (mCons false (mName 13) mNil)))) (mName 13)))
  (mThen (mSet 14 (mLc [13] (mItV (mName 11)) (gmName 13) (mTest T.bool (mOp (pOwnCmp true "Mode" F_Mode___eq__) false (mNew "Mode" [.val] F_Mode___init__ (mCons false (mName 6) mNil)) (mNew "Mode" [.val] F_Mode___init__ (mCons false (mName 13) mNil)))) (mName 13)))
  (mIf (mBr (mTest T.bool (mOp pNe true (mName 12) (mLst (mCons true (mName 6) mNil)))) (mPure true) (mTest T.bool (mOp pNe true (mPrim pLen (mCons true (mName 14) mNil)) (mC (.int (3)))))) (mRet (mC (.bl false))) .nx))))
  (mRet (mC (.bl true)))))))) (show SS ⟨c.base, [0], L2.start ["_law_script", "_law_ranks", "_law_start", "_law_tape_here", "_law_turn", "_law_value", "_law_word", "_law_at", "_law_sign", "_law_due", "_law_seen", "_law_words", "_law_mates", "_law_other", "_law_unlike"] vs⟩ (fun cls d _ H => E cls d H) _ _ from (SS.seq (SS.asg (SV.disp (SD.cons (sv_c fun _ _ _ => .str _) (sv_c fun _ _ _ => .int _) (SD.cons (sv_c fun _ _ _ => .str _) (sv_c fun _ _ _ => .int _) (SD.cons (sv_c fun _ _ _ => .str _) (sv_c fun _ _ _ => .int _) (SD.cons (sv_c fun _ _ _ => .str _) (sv_c fun _ _ _ => .int _) SD.nil))))) (SG.name 1 (show 1 ∉ ([0] : List Nat) by decide)))
      (SS.seq (SS.for_ (SI.range1 (SV.cb pr_max (SA.cons (sv_c fun _ _ _ => .int _) (SA.cons (SV.cb pr_min (SA.cons (sv_c fun _ _ _ => .int _) (SA.cons (SV.cb pr_len (SA.cons sv_name SA.nil)) SA.nil))) SA.nil)))) (SG.name 2 (show 2 ∉ ([0] : List Nat) by decide)) (SS.seq (SS.set 3 (show 3 ∉ ([0] : List Nat) by decide) (SV.callR ln_law_tape (SA.cons sv_name (SA.cons sv_name SA.nil))))
      (SS.for_ (SI.range1 (sv_c fun _ _ _ => .int _)) (SG.name 4 (show 4 ∉ ([0] : List Nat) by decide)) (SS.seq (SS.set 5 (show 5 ∉ ([0] : List Nat) by decide) (SV.callW ln_law_any (SK.io 3 SK.nil)))
      (SS.seq (SS.ifs (SV.test (SV.op pr_eq2 (SV.callW ln_law_pick (SK.io 3 (SK.val (sv_c fun _ _ _ => .int _) SK.nil))) (sv_c fun _ _ _ => .int _))) (SS.seq (SS.asg (SV.callW ln_law_one_of (SK.io 3 (SK.val (SV.fz (SV.cb pr_listD (SA.cons sv_name SA.nil))) SK.nil))) (SG.name 6 (show 6 ∉ ([0] : List Nat) by decide)))
      (SS.seq (SS.par (show 7 ∉ ([0] : List Nat) by decide) (show 8 ∉ ([0] : List Nat) by decide) (SA.cons (SV.callW ln_law_pick (SK.io 3 (SK.val (SV.fz (SV.op pr_add (SV.cb pr_len (SA.cons sv_name SA.nil)) (sv_c fun _ _ _ => .int _))) SK.nil))) (SA.cons (SV.callW ln_law_one_of (SK.io 3 (SK.val sv_lit SK.nil))) SA.nil)))
      (SS.set 5 (show 5 ∉ ([0] : List Nat) by decide) (SV.op pr_add (SV.op pr_add (SV.slice sv_name SO.none (SO.some sv_name)) sv_name) (SV.slice sv_name (SO.some sv_name) SO.none))))) SS.next)
      (SS.seq (SS.set 9 (show 9 ∉ ([0] : List Nat) by decide) (SV.lst (SA.cons (sv_c fun _ _ _ => .str _) (SA.cons sv_name SA.nil))))
      (SS.seq (SS.ifs (ST.and (SV.truth (SV.isi "str" sv_name)) (SV.test (SV.op (pr_mem false) sv_name sv_name))) (SS.set 9 (show 9 ∉ ([0] : List Nat) by decide) (SV.lst (SA.cons (sv_c fun _ _ _ => .str _) (SA.cons sv_name (SA.cons (SV.op pr_item sv_name sv_name) SA.nil))))) SS.next)
      (SS.seq (SS.set 10 (show 10 ∉ ([0] : List Nat) by decide) (SV.cb pr_repr (SA.cons sv_name SA.nil)))
      (SS.seq (SS.ifs (ST.or (SV.test (SV.op pr_ne (SV.cb pr_repr (SA.cons (SV.callR ln_law_made (SA.cons sv_name SA.nil)) SA.nil)) (SV.cb pr_repr (SA.cons sv_name SA.nil)))) (SV.test (SV.op pr_ne (SV.cb pr_repr (SA.cons sv_name SA.nil)) sv_name))) (SS.ret (sv_c fun _ _ _ => .bl _)) SS.next)
      (SS.forK (SPd.name 1) (SG.name 6 (show 6 ∉ ([0] : List Nat) by decide)) (SS.ifs (ST.or (SV.test (SV.op pr_ne (SV.cb pr_repr (SA.cons (SV.op (pr_eqOB "Mode" F_Mode___eq__ ln_Mode___eq__) (SV.new "Mode" ln_Mode___init__ (SK.val sv_name SK.nil)) sv_name) SA.nil)) (sv_c fun _ _ _ => .str _))) (SV.test (SV.op pr_is (SV.op (pr_eqBO "Mode" F_Mode___eq__ ln_Mode___eq__) sv_name (SV.new "Mode" ln_Mode___init__ (SK.val sv_name SK.nil))) (sv_c fun _ _ _ => .bl _)))) (SS.ret (sv_c fun _ _ _ => .bl _)) SS.next)))))))))))
      (SS.seq (SS.asg (SV.cb pr_listD (SA.cons sv_name SA.nil)) (SG.name 11 (show 11 ∉ ([0] : List Nat) by decide)))
      (SS.seq (SS.for_ (SI.any sv_name) (SG.name 6 (show 6 ∉ ([0] : List Nat) by decide)) (SS.seq (SS.set 12 (show 12 ∉ ([0] : List Nat) by decide) (SV.lc (vs := [13]) (SI.any sv_name) (fun _ _ => (SG.name 13 (but_not (by decide)))) (SV.test (SV.op (pr_ownCmp false "Mode" F_Mode___eq__ ln_Mode___eq__) (SV.new "Mode" ln_Mode___init__ (SK.val sv_name SK.nil)) (SV.new "Mode" ln_Mode___init__ (SK.val sv_name SK.nil)))) sv_name))
      (SS.seq (SS.set 14 (show 14 ∉ ([0] : List Nat) by decide) (SV.lc (vs := [13]) (SI.any sv_name) (fun _ _ => (SG.name 13 (but_not (by decide)))) (SV.test (SV.op (pr_ownCmp true "Mode" F_Mode___eq__ ln_Mode___eq__) (SV.new "Mode" ln_Mode___init__ (SK.val sv_name SK.nil)) (SV.new "Mode" ln_Mode___init__ (SK.val sv_name SK.nil)))) sv_name))
      (SS.ifs (ST.or (SV.test (SV.op pr_ne sv_name (SV.lst (SA.cons sv_name SA.nil)))) (SV.test (SV.op pr_ne (SV.cb pr_len (SA.cons sv_name SA.nil)) (sv_c fun _ _ _ => .int _)))) (SS.ret (sv_c fun _ _ _ => .bl _)) SS.next))))
      (SS.ret (sv_c fun _ _ _ => .bl _))))))) (by decide) rfl h
end
end Rm
namespace Rm
open PySem PySem.Spec L2
open PyProof.Rows hiding St
local macro_rules | `(tactic| simp_all! only [$ts,*]) => `(tactic| simp only [w_def, w_thenS, w_if, w_test, w_bool, w_op, w_prim, w_cons, w_nil, w_name, w_c, w_pure, w_br, w_seqT, w_lst, w_chain, w_part, w_pureO, w_slice, w_drop, w_ret, w_retN, w_set, w_move, w_raise, w_asg, w_parN, w_par, w_plName, w_plFld, w_setF, w_setI, w_ddel, w_safe, w_callW, w_kNo, w_kLw, w_callR, w_methR, w_methW, w_methWK, w_nx, w_bk, w_ct, w_rt, w_ok, w_err, w_oerr, gmName, List.length_cons, List.length_nil, List.replicate, List.cons_append, List.nil_append, List.getElem?_cons_zero, List.getElem?_cons_succ, List.set_cons_zero, List.set_cons_succ, List.map_cons, List.map_nil, rdW_own, rdW_vw, mvW_own, Bool.true_or, Bool.false_or, Bool.or_true, true_and, and_true, t_own, t_vw, h_own, keep_own, fz_own, oW_some, oW_ite, bW_some, tW_some, tW_ite, T.bool, Option.map_some, finP, setN, Nat.zero_lt_succ, Nat.reduceLT, Nat.reduceAdd, Nat.reduceLeDiff, getK_hd, id_eq, prep, back, sfW, Bool.and_true, Bool.true_and, decide_true, decide_eq_true_eq, if_true, if_false, ite_true, ite_false, Bool.false_eq_true, eq_self, $ts,*])
def tapeT (d m : Int) : T := .dct true [(.inr "digits", .int d), (.inr "mixed", .int m)]
theorem kDM' : ¬ ((.inr "digits" : Key) = .inr "mixed") := fun z => kDM (Sum.inr.inj z)
theorem tape_gm {d m : Int} : getK [((.inr "digits" : Key), T.int d), (.inr "mixed", T.int m)] (.inr "mixed") = some (.int m) := by rw [getK_tl kDM', getK_hd]
theorem tape_sd {d m d' : Int} : putT [((.inr "digits" : Key), T.int d), (.inr "mixed", T.int m)] (.inr "digits") (.int d') = [(.inr "digits", .int d'), (.inr "mixed", .int m)] := by unfold putT; rw [if_pos rfl]
theorem tape_sm {d m d' : Int} : putT [((.inr "digits" : Key), T.int d), (.inr "mixed", T.int m)] (.inr "mixed") (.int d') = [(.inr "digits", .int d), (.inr "mixed", .int d')] := by
  unfold putT; rw [if_neg kDM']; unfold putT; rw [if_pos rfl]
theorem pick_ok {d m n : Int} (hm : 0 ≤ m ∧ m < 2 ^ 32) (hn : 0 < n ∧ n < 2 ^ 30) {Q : Ent → List Ent → Prop} {E : EK} (k : ∀ r d' m', (0 ≤ r ∧ r < n) → (0 ≤ m' ∧ m' < 2 ^ 32) → Q (.own (.int r)) [.own (tapeT d' m'), .own (.int n)]) : (F_law_pick [.own (tapeT d m), .own (.int n)]).w Q E := by
  obtain ⟨hm0, hm1⟩ := hm
  obtain ⟨hn0, hn1⟩ := hn
  unfold F_law_pick tapeT
  simp_all! only [pItem, itemT, T.key, pGe, tape_gm, tape_sd, tape_sm, pInt, pMod, pDiv, pMul, pAdd, pPow, setIx]
  refine ite2 (fun hd => ?_) (fun hd => ?_)
  · exact ⟨hn0, ⟨hn0, by omega⟩, two_lt_line (by decide), k _ _ _ ⟨Int.emod_nonneg _ (by omega), Int.emod_lt_of_pos _ hn0⟩ ⟨hm0, hm1⟩⟩
  · have h0 : 0 ≤ (m * 40014 + 1017) % 2147483563 := Int.emod_nonneg _ (by decide)
    have h1 : (m * 40014 + 1017) % 2147483563 < 2147483563 := Int.emod_lt_of_pos _ (by decide)
    generalize (m * 40014 + 1017) % 2147483563 = m1 at h0 h1 ⊢
    have g0 : 0 ≤ m1 ^ Int.toNat 2 % 2147483399 := Int.emod_nonneg _ (by decide)
    have g1 : m1 ^ Int.toNat 2 % 2147483399 < 2147483399 := Int.emod_lt_of_pos _ (by decide)
    generalize m1 ^ Int.toNat 2 % 2147483399 = o at g0 g1 ⊢
    have hb := bits_small (i := m1) (by omega)
    have hb2 := bits_small (i := o) (by omega)
    refine ⟨?_, by decide, two_lt_line (by decide), ⟨by decide, by omega⟩, by decide, ⟨by decide, by omega⟩, by decide, ⟨by decide, by decide⟩, hn0, k _ _ _ ⟨Int.emod_nonneg _ (by omega), Int.emod_lt_of_pos _ hn0⟩ ⟨h0, by omega⟩⟩
    simp only [mulB, Bool.or_eq_true, decide_eq_true_eq]
    exact Or.inl (Or.inl (PySem.intBits_le_64 (by omega) (by omega)))
/-- a tape -/
def IsTape (t : T) : Prop := ∃ d m, t = tapeT d m ∧ 0 ≤ m ∧ m < 2 ^ 32
theorem pick_t {t : T} {n : Int} (ht : IsTape t) (hn : 0 < n ∧ n < 2 ^ 30) {Q : Ent → List Ent → Prop} {E : EK} (k : ∀ r t', (0 ≤ r ∧ r < n) → IsTape t' → Q (.own (.int r)) [.own t', .own (.int n)]) : (F_law_pick [.own t, .own (.int n)]).w Q E := by
  obtain ⟨d, m, rfl, hm⟩ := ht
  exact pick_ok hm hn fun r d' m' hr hm' => k r _ hr ⟨d', m', rfl, hm'⟩
/-- one of some items, frozen -/
theorem one_of_t {t : T} {ts : List T} (ht : IsTape t) (hl : 0 < ts.length ∧ ts.length < 1000) (hf : T.isFA ts = true) {Q : Ent → List Ent → Prop} {E : EK} (k : ∀ u t' e, u ∈ ts → u.isF = true → IsTape t' → Q (.vw u) [.own t', e]) : (F_law_one_of [.own t, .own (.lst false ts)]).w Q E := by
  unfold F_law_one_of
  simp_all! only [pLen, T.isF, Ent.held, hf, Bool.not_false]
  refine pick_t (n := (ts.length : Int)) ht ⟨by omega, by omega⟩ fun r t' hr ht' => ?_
  simp_all! only [pItem, itemT]
  obtain ⟨n, rfl⟩ := Int.eq_ofNat_of_zero_le hr.1
  have hn : n < ts.length := by omega
  rw [atI_nat (List.getElem?_eq_getElem hn)]
  exact k _ _ _ (List.getElem_mem hn) (T.isFA_mem hf (List.getElem_mem hn)) ht'
theorem isFA_ints : ∀ ns : List Int, T.isFA (ns.map T.int) = true
  | [] => rfl
  | n :: ns => by rw [List.map_cons, T.isFA, isFA_ints ns]; rfl
theorem tape_t {ns : List Int} {st : Int} (h0 : 0 ≤ st ∧ st < 3) (hl : ns.length < 1000) (hb : ∀ z ∈ ns, Builtin.Int.intBits z ≤ 1048576) {Q : Ent → List Ent → Prop} {E : EK} (k : ∀ t r, IsTape t → Q (.own t) r) : (F_law_tape [.own (.scr (ns.map T.int)), .own (.int st)]).w Q E := by
  unfold F_law_tape
  simp_all! only [w_for, w_itV, pAdd, pMul, Ent.fz, T.isF, T.items, isFA_ints]
  refine ⟨?_, ?_⟩
  · simp only [mulB, Bool.or_eq_true, decide_eq_true_eq]
    exact Or.inl (Or.inl (PySem.intBits_le_64 (by omega) (by omega)))
  refine forM_w (fun ts ρ => ∃ ms m r, ts = ms.map T.int ∧ (∀ z ∈ ms, z ∈ ns) ∧ (0 ≤ m ∧ m < 2147483565) ∧ ρ = [.own (.scr (ns.map T.int)), .own (.int st), .own (.int m), r, .no]) (fun ρ h => ?_) (fun x ts ρ h => ?_) _ _ ⟨ns, _, _, rfl, fun _ q => q, by omega, rfl⟩
  · obtain ⟨ms, m, r, h1, h2, h3, rfl⟩ := h
    simp_all! only [pLen, pLt, w_disp, w_dCons, w_dNil, keepP, T.key, Ent.held, Ent.keep, T.isF]
    have hnd : [(Sum.inr (Str.ofString "digits") : Key), Sum.inr (Str.ofString "mixed")].Nodup := by decide
    refine ite2 (fun hlt => ?_) (fun _ => ⟨hnd, k _ _ ⟨0, m, rfl, by omega⟩⟩)
    rw [List.length_map] at hlt
    have ei : ∃ z, atI (ns.map T.int) st = some (T.int z) := by
      obtain ⟨n, rfl⟩ := Int.eq_ofNat_of_zero_le h0.1
      have hn : n < ns.length := by omega
      exact ⟨ns[n], atI_nat (by rw [List.getElem?_map, List.getElem?_eq_getElem hn]; rfl)⟩
    obtain ⟨z, ei⟩ := ei
    simp_all! only [pItem, itemT, ei, pPow, pGe, pSub, T.isF]
    refine ⟨⟨by decide, by decide⟩, ite2 (fun _ => ?_) (fun _ => ?_)⟩
    · exact ⟨⟨by decide, by decide⟩, hnd, k _ _ ⟨_, m, rfl, by omega⟩⟩
    · exact ⟨hnd, k _ _ ⟨0, m, rfl, by omega⟩⟩
  · obtain ⟨ms, m, r, h1, h2, h3, rfl⟩ := h
    cases ms with
    | nil => exact nomatch h1
    | cons z ms =>
      rw [List.map_cons] at h1
      obtain ⟨rfl, rfl⟩ := List.cons.inj h1
      simp_all! only [gmName, pAdd, pMul, pPow, pInt, pMod]
      have hz := hb z (h2 z List.mem_cons_self)
      refine ⟨?_, ?_, ⟨by decide, tape_bits h3 hz⟩, by decide, ms, _, _, rfl, fun y q => h2 y (List.mem_cons_of_mem _ q), ?_, rfl⟩
      · simp only [mulB, Bool.or_eq_true, decide_eq_true_eq]
        exact Or.inl (Or.inl (PySem.intBits_le_64 (by omega) (by omega)))
      · simp only [mulB, Bool.or_eq_true, decide_eq_true_eq]
        right; omega
      · have g0 : 0 ≤ (m * 30013 + z * z + 11) ^ Int.toNat 2 % 2147483563 := Int.emod_nonneg _ (by decide)
        have g1 : (m * 30013 + z * z + 11) ^ Int.toNat 2 % 2147483563 < 2147483563 := Int.emod_lt_of_pos _ (by decide)
        omega
end Rm
namespace Rm
open PySem PySem.Spec L2
open PyProof.Rows hiding St
def T.pl : T → Bool
  | .dtp _ _ _ => false
  | .ins _ _ _ => false
  | .scr _ => false
  | _ => true
/-- a tree with a short text -/
def FineT (n k : Nat) (t : T) : Prop := ∃ d, t.data = some d ∧ Fine n k d
theorem FineT.mono {n k n' k' : Nat} {t : T} (h : FineT n k t) (hn : n ≤ n') (hk : k ≤ k') : FineT n' k' t := let ⟨d, e, f⟩ := h; ⟨d, e, f.mono hn hk⟩
theorem fineT_int {i : Int} (h0 : -(2 ^ 200) < i) (h1 : i < 2 ^ 200) : FineT 2000 5 (.int i) := ⟨.int i, rfl, fine_int h0 h1⟩
/-- what may be asked for -/
structure Askd (t : T) : Prop where
  pl : t.pl = true
  fz : t.isF = true
  sh : FineT 9000 5 t
theorem Askd.int {n : Int} (h : -(2 ^ 31) < n ∧ n < 2 ^ 31) : Askd (.int n) := ⟨rfl, rfl, (fineT_int (by omega) (by omega)).mono (by omega) (by omega)⟩
theorem eq_ints {a b : Int} : pEq2 [.int a, .int b] = some (.own (.bl (decide (a = b)))) := by
  have hs : ∀ n, SeqAt.shaped (.int n) = true := fun n => by simp only [SeqAt.shaped, PyData.canLay0, PyData.depth]; rfl
  have he : PyData.eqv (.int a) (.int b) = decide (a = b) := by
    simp only [PyData.eqv]; rfl
  simp only [pEq2, eqT, eqT0, T.data, hs, Bool.and_self, if_true, he, oB]
theorem mem_range {n : Nat} {t : T} (h : t ∈ rangeT 0 n) : ∃ i : Int, t = .int i ∧ 0 ≤ i ∧ i < n := by
  obtain ⟨j, hj, rfl⟩ := List.mem_map.mp h
  have := List.mem_range.mp hj
  exact ⟨_, rfl, by omega, by omega⟩
end Rm
namespace Rm
open PySem PySem.Spec L2
open PyProof.Rows hiding St
/-- values of all kinds -/
def anyTs : List T := encA [.none, (.bool true), (.bool false), (.int (0)), (.int (1)), (.int (2)), (.int (7)), (.int (0 - 1)), (.int (10 ^ ((40 : Int)).toNat)), (.str ""), (.str "a"), (.str "x"), (.str "hold"), (.str "locks"), (.str "Hold"), (.str "change "), (.str "abcdefg"), (.tuple []), (.list []), (.dict []), (.tuple [(.int (1))]), (.list [(.int (1))]), (.dict [(keyD (.inr "x"), (.int (1)))]), (.tuple [(.int (1)), (.str "locks"), (.str "hold")]), (.tuple [(.str "hold")]), (.list [(.str "hold")]), (.str "1")]
def gws : List Str := ["hold", "keep", "change", "replace"]
def sgs : List Str := ["", " ", "e", "H"]
def rdT : T := .dct false [(.inr "hold", .int 1), (.inr "keep", .int 2), (.inr "change", .int 3), (.inr "replace", .int 4)]
def catC (w : Str) (i : Int) (g : Str) : Option (T × T × T × T) := match pSl none (some i) [.str w], pSl (some i) none [.str w] with
  | some (.own a), some (.own b) => (match pAdd [a, .str g] with
    | some (.own c) => (match pAdd [c, b] with
      | some (.own v) => if v.isF = true then some (a, b, c, v) else none
      | _ => none)
    | _ => none)
  | _, _ => none
def catV (w : Str) (i : Int) (g : Str) : T := match catC w i g with
  | some (_, _, _, v) => v
  | none => .non
def catTs : List T := gws.flatMap fun w => (List.range (w.length + 1)).flatMap fun (i : Nat) => sgs.map fun g => catV w (Int.ofNat i) g
theorem cat_good : (gws.all fun w => (List.range (w.length + 1)).all fun i => sgs.all fun g => (catC w (i : Int) g).isSome) = true := by decide +kernel
def vals : List T := anyTs ++ catTs
theorem cat_e {w g : Str} {i : Int} (hw : w ∈ gws) (hi : 0 ≤ i ∧ i < w.length + 1) (hg : g ∈ sgs) : ∃ a b c v, pSl none (some i) [.str w] = some (.own a) ∧ pSl (some i) none [.str w] = some (.own b) ∧ pAdd [a, .str g] = some (.own c) ∧ pAdd [c, b] = some (.own v) ∧ v ∈ vals := by
  have h := List.all_eq_true.mp (List.all_eq_true.mp (List.all_eq_true.mp cat_good w hw) i.toNat (List.mem_range.mpr (by omega))) g hg
  have hm : catV w ((i.toNat : Nat) : Int) g ∈ vals := List.mem_append_right _ (List.mem_flatMap.mpr ⟨w, hw, List.mem_flatMap.mpr ⟨i.toNat, List.mem_range.mpr (by omega), List.mem_map.mpr ⟨g, hg, rfl⟩⟩⟩)
  rw [show ((i.toNat : Nat) : Int) = i by omega] at h hm
  unfold catV at hm
  unfold catC at h hm
  split at h
  · rename_i a b e1 e2
    split at h
    · rename_i c e3
      split at h
      · rename_i v e4
        by_cases hv : v.isF = true
        · rw [e1, e2] at hm
          dsimp only at hm
          rw [e3] at hm
          dsimp only at hm
          rw [e4] at hm
          dsimp only at hm
          rw [if_pos hv] at hm
          exact ⟨a, b, c, v, e1, e2, e3, e4, hm⟩
        · rw [if_neg hv] at h; cases h
      · cases h
    · cases h
  · cases h
def restM : List Ent → O := (mThen (mSet 9 (mLst (mCons true (mC (.str "bad")) (mCons true (mName 5) mNil))))
  (mThen (mIf (mBr (mTest T.tru (mPrim (pIsi "str") (mCons true (mName 5) mNil))) (mTest T.bool (mOp (pMem false) true (mName 5) (mName 1))) (mPure false)) (mSet 9 (mLst (mCons true (mC (.str "made")) (mCons true (mName 5) (mCons true (mOp pItem true (mName 1) (mName 5)) mNil))))) .nx)
  (mThen (mSet 10 (mPrim pRepr (mCons true (mName 5) mNil)))
  (mThen (mIf (mBr (mTest T.bool (mOp pNe true (mPrim pRepr (mCons true (mCallR F_law_made (mCons true (mName 5) mNil)) mNil)) (mPrim pRepr (mCons true (mName 9) mNil)))) (mPure true) (mTest T.bool (mOp pNe true (mPrim pRepr (mCons true (mName 5) mNil)) (mName 10)))) (mRet (mC (.bl false))) .nx)
  (mForK (mdName 1) (gmName 6) (mIf (mBr (mTest T.bool (mOp pNe true (mPrim pRepr (mCons true (mOp (pEqOB "Mode" F_Mode___eq__) true (mNew "Mode" [.val] F_Mode___init__ (mCons false (mName 6) mNil)) (mName 5)) mNil)) (mC (.str "False")))) (mPure true) (mTest T.bool (mOp pIs true (mOp (pEqBO "Mode" F_Mode___eq__) false (mName 5) (mNew "Mode" [.val] F_Mode___init__ (mCons false (mName 6) mNil))) (mC (.bl true))))) (mRet (mC (.bl false))) .nx))))))
def tailM : List Ent → O := (mThen (mAsg (mPrim pListD (mCons true (mName 1) mNil)) (gmName 11))
  (mThen (mFor (mItV (mName 11)) (gmName 6) (mThen (mSet 12 (mLc [13] (mItV (mName 11)) (gmName 13) (mTest T.bool (mOp (pOwnCmp false "Mode" F_Mode___eq__) false (mNew "Mode" [.val] F_Mode___init__ (mCons false (mName 6) mNil)) (mNew "Mode" [.val] F_Mode___init__ (mCons false (mName 13) mNil)))) (mName 13)))
  (mThen (mSet 14 (mLc [13] (mItV (mName 11)) (gmName 13) (mTest T.bool (mOp (pOwnCmp true "Mode" F_Mode___eq__) false (mNew "Mode" [.val] F_Mode___init__ (mCons false (mName 6) mNil)) (mNew "Mode" [.val] F_Mode___init__ (mCons false (mName 13) mNil)))) (mName 13)))
  (mIf (mBr (mTest T.bool (mOp pNe true (mName 12) (mLst (mCons true (mName 6) mNil)))) (mPure true) (mTest T.bool (mOp pNe true (mPrim pLen (mCons true (mName 14) mNil)) (mC (.int (3)))))) (mRet (mC (.bl false))) .nx))))
  (mRet (mC (.bl true)))))
def keep5 : O → Option (List Ent)
  | .nx ρ => if ρ.length = 15 then some (ρ.take 5) else none
  | _ => none
theorem any_rest (x0 x2 x3 x4 r6 r7 r8 r9 r10 r11 r12 r13 r14 : Ent) : anyTs.map (fun v => keep5 (restM [x0, .own rdT, x2, x3, x4, .own v, r6, r7, r8, r9, r10, r11, r12, r13, r14])) = anyTs.map (fun _ => some [x0, .own rdT, x2, x3, x4]) := by kernel_rfl
theorem cat_rest (x0 x2 x3 x4 r6 r7 r8 r9 r10 r11 r12 r13 r14 : Ent) : catTs.map (fun v => keep5 (restM [x0, .own rdT, x2, x3, x4, .own v, r6, r7, r8, r9, r10, r11, r12, r13, r14])) = catTs.map (fun _ => some [x0, .own rdT, x2, x3, x4]) := by kernel_rfl
theorem map_eq_at {α β : Type} {f g : α → β} : ∀ {l : List α}, l.map f = l.map g → ∀ a ∈ l, f a = g a
  | [], _, _, h => nomatch h
  | x :: l, e, a, h => by
    simp only [List.map_cons, List.cons.injEq] at e
    rcases List.mem_cons.mp h with rfl | h
    · exact e.1
    · exact map_eq_at e.2 a h
theorem rest_e {v : T} (hv : v ∈ vals) (x0 x2 x3 x4 r6 r7 r8 r9 r10 r11 r12 r13 r14 : Ent) : ∃ q5 q6 q7 q8 q9 q10 q11 q12 q13 q14, restM [x0, .own rdT, x2, x3, x4, .own v, r6, r7, r8, r9, r10, r11, r12, r13, r14] = .nx [x0, .own rdT, x2, x3, x4, q5, q6, q7, q8, q9, q10, q11, q12, q13, q14] := by
  have h : keep5 (restM [x0, .own rdT, x2, x3, x4, .own v, r6, r7, r8, r9, r10, r11, r12, r13, r14]) = some [x0, .own rdT, x2, x3, x4] := by
    rcases List.mem_append.mp hv with h | h
    · exact map_eq_at (any_rest x0 x2 x3 x4 r6 r7 r8 r9 r10 r11 r12 r13 r14) v h
    · exact map_eq_at (cat_rest x0 x2 x3 x4 r6 r7 r8 r9 r10 r11 r12 r13 r14) v h
  unfold keep5 at h
  split at h
  · rename_i ρ e
    rw [e]
    split at h
    · rename_i hl
      match ρ, hl with
      | [y0, y1, y2, y3, y4, y5, y6, y7, y8, y9, y10, y11, y12, y13, y14], _ =>
        simp only [List.take_succ_cons, List.take_zero, Option.some.injEq, List.cons.injEq, and_true] at h
        obtain ⟨rfl, rfl, rfl, rfl, rfl⟩ := h
        exact ⟨_, _, _, _, _, _, _, _, _, _, rfl⟩
    · cases h
  · cases h
def rtTr : O → Bool
  | .rt (.own (.bl true)) _ => true
  | _ => false
theorem tail_e (x0 r2 r3 r4 r5 r6 r7 r8 r9 r10 r11 r12 r13 r14 : Ent) : rtTr (tailM [x0, .own rdT, r2, r3, r4, r5, r6, r7, r8, r9, r10, r11, r12, r13, r14]) = true := by kernel_rfl
end Rm
namespace Rm
open PySem PySem.Spec L2
open PyProof.Rows hiding St
local macro_rules | `(tactic| simp_all! only [$ts,*]) => `(tactic| simp only [w_def, w_thenS, w_if, w_test, w_bool, w_op, w_prim, w_cons, w_nil, w_name, w_c, w_pure, w_br, w_seqT, w_lst, w_chain, w_part, w_pureO, w_slice, w_drop, w_ret, w_retN, w_set, w_move, w_raise, w_asg, w_parN, w_par, w_plName, w_plFld, w_setF, w_setI, w_ddel, w_safe, w_callW, w_kNo, w_kLw, w_callR, w_methR, w_methW, w_methWK, w_nx, w_bk, w_ct, w_rt, w_ok, w_err, w_oerr, gmName, List.length_cons, List.length_nil, List.replicate, List.cons_append, List.nil_append, List.getElem?_cons_zero, List.getElem?_cons_succ, List.set_cons_zero, List.set_cons_succ, List.map_cons, List.map_nil, rdW_own, rdW_vw, mvW_own, Bool.true_or, Bool.false_or, Bool.or_true, true_and, and_true, t_own, t_vw, h_own, keep_own, fz_own, oW_some, oW_ite, bW_some, tW_some, tW_ite, T.bool, Option.map_some, finP, setN, Nat.zero_lt_succ, Nat.reduceLT, Nat.reduceAdd, Nat.reduceLeDiff, getK_hd, id_eq, prep, back, sfW, Bool.and_true, Bool.true_and, decide_true, decide_eq_true_eq, if_true, if_false, ite_true, ite_false, Bool.false_eq_true, eq_self, $ts,*])
local macro_rules | `(tactic| simp! only [$ts,*]) => `(tactic| simp only [w_def, w_if, w_test, w_bool, w_op, w_prim, w_cons, w_nil, w_name, w_c, w_pure, w_br, w_seqT, w_lst, w_chain, w_part, w_pureO, w_slice, w_drop, w_ret, w_retN, w_set, w_move, w_raise, w_asg, w_parN, w_par, w_plName, w_plFld, w_setF, w_setI, w_ddel, w_safe, w_callW, w_kNo, w_kLw, w_callR, w_methR, w_methW, w_methWK, w_nx, w_bk, w_ct, w_rt, w_ok, w_err, w_oerr, gmName, List.length_cons, List.length_nil, List.replicate, List.cons_append, List.nil_append, List.getElem?_cons_zero, List.getElem?_cons_succ, List.set_cons_zero, List.set_cons_succ, List.map_cons, List.map_nil, rdW_own, rdW_vw, mvW_own, Bool.true_or, Bool.false_or, Bool.or_true, true_and, and_true, t_own, t_vw, h_own, keep_own, fz_own, oW_some, oW_ite, bW_some, tW_some, tW_ite, T.bool, Option.map_some, finP, setN, Nat.zero_lt_succ, Nat.reduceLT, Nat.reduceAdd, Nat.reduceLeDiff, getK_hd, id_eq, prep, back, sfW, Bool.and_true, Bool.true_and, decide_true, decide_eq_true_eq, if_true, if_false, ite_true, ite_false, Bool.false_eq_true, eq_self, $ts,*])
theorem eqO {o o' : O} {D : OK} (h : o = o') (k : o'.w D) : o.w D := by rw [h]; exact k
theorem asg_1 (x0 r1 r2 r3 r4 r5 r6 r7 r8 r9 r10 r11 r12 r13 r14 : Ent) : mAsg (mDisp (mDCons (mC (.str "hold")) (mC (.int (1))) (mDCons (mC (.str "keep")) (mC (.int (2))) (mDCons (mC (.str "change")) (mC (.int (3))) (mDCons (mC (.str "replace")) (mC (.int (4))) mDNil))))) (gmName 1) [x0, r1, r2, r3, r4, r5, r6, r7, r8, r9, r10, r11, r12, r13, r14]
    = .nx [x0, .own rdT, r2, r3, r4, r5, r6, r7, r8, r9, r10, r11, r12, r13, r14] := by kernel_rfl
theorem isFA_str : ∀ xs : List Str, T.isFA (xs.map T.str) = true
  | [] => rfl
  | x :: xs => by rw [List.map_cons, T.isFA, isFA_str xs]; rfl
theorem any_t {t : T} (ht : IsTape t) {Q : Ent → List Ent → Prop} {E : EK} (k : ∀ u t', u ∈ vals → IsTape t' → Q (.own u) [.own t']) : (F_law_any [.own t]).w Q E := by
  unfold F_law_any
  simp only [w_def, w_thenS, w_if, w_test, w_bool, w_op, w_prim, w_cons, w_nil, w_name, w_c, w_pure, w_br, w_seqT, w_lst, w_chain, w_part, w_pureO, w_slice, w_drop, w_ret, w_retN, w_set, w_move, w_raise, w_parN, w_par, w_plName, w_plFld, w_setF, w_setI, w_ddel, w_safe, w_callW, w_kNo, w_kLw, w_callR, w_methR, w_methW, w_methWK, w_nx, w_bk, w_ct, w_rt, w_ok, w_err, w_oerr, gmName, List.length_cons, List.length_nil, List.replicate, List.cons_append, List.nil_append, List.getElem?_cons_zero, List.getElem?_cons_succ, List.set_cons_zero, List.set_cons_succ, List.map_cons, List.map_nil, rdW_own, rdW_vw, mvW_own, Bool.true_or, Bool.false_or, Bool.or_true, true_and, and_true, t_own, t_vw, h_own, keep_own, fz_own, oW_some, oW_ite, bW_some, tW_some, tW_ite, T.bool, Option.map_some, finP, setN, Nat.zero_lt_succ, Nat.reduceLT, Nat.reduceAdd, Nat.reduceLeDiff, getK_hd, id_eq, prep, back, sfW, Bool.and_true, Bool.true_and, decide_true, decide_eq_true_eq, if_true, if_false, ite_true, ite_false, Bool.false_eq_true, eq_self, w_asgN, pAdd, T.isF, Ent.held, enc, encA, encP, T.isFA, T.isFP, T.frz, T.frzA, T.frzP, List.cons_append, List.nil_append, Bool.not_false]
  refine ⟨by decide, ?_⟩
  refine one_of_t ht (by decide) rfl fun u t' e hu hf ht' => ?_
  simp_all! only [gmName]
  exact ⟨hf, k u t' (List.mem_append_left _ hu) ht'⟩
theorem len_w {w : Str} (hw : w ∈ gws) : pLen [.str w] = some (.own (.int w.length)) ∧ w.length < 10 := by
  simp only [gws, List.mem_cons, List.not_mem_nil, or_false] at hw
  rcases hw with e | e | e | e <;> subst e <;> exact ⟨by kernel_rfl, by decide⟩
theorem add_i {a b : Int} : pAdd [.int a, .int b] = some (.own (.int (a + b))) := rfl
theorem list_r : pListD [rdT] = some (.own (.lst true (gws.map T.str))) := rfl
theorem tail_q (x0 r2 r3 r4 r5 r6 r7 r8 r9 r10 r11 r12 r13 r14 : Ent) : ∃ ρ, tailM [x0, .own rdT, r2, r3, r4, r5, r6, r7, r8, r9, r10, r11, r12, r13, r14] = .rt (.own (.bl true)) ρ := by
  have h := tail_e x0 r2 r3 r4 r5 r6 r7 r8 r9 r10 r11 r12 r13 r14
  generalize tailM [x0, .own rdT, r2, r3, r4, r5, r6, r7, r8, r9, r10, r11, r12, r13, r14] = o at h
  unfold rtTr at h
  split at h
  · exact ⟨_, rfl⟩
  · cases h
theorem turn_t {ns : List Int} {st : Int} {t : T} (ht : IsTape t) {x4 : Ent} {r5 r6 r7 r8 r9 r10 r11 r12 r13 r14 : Ent} {I : List Ent → Prop} (k : ∀ t', IsTape t' → ∀ q5 q6 q7 q8 q9 q10 q11 q12 q13 q14, I [.own (.scr (ns.map T.int)), .own rdT, .own (.int st), .own t', x4, q5, q6, q7, q8, q9, q10, q11, q12, q13, q14]) :
    ((mThen (mSet 5 (mCallW [.io 3] F_law_any (mKNo 3 mNil)))
  (mThen (mIf (mTest T.bool (mOp pEq2 true (mCallW [.io 3, .val] F_law_pick (mKNo 3 (mCons false (mC (.int (3))) mNil))) (mC (.int (0))))) (mThen (mAsg (mCallW [.io 3, .val] F_law_one_of (mKNo 3 (mCons false (mFz (mPrim pListD (mCons true (mName 1) mNil))) mNil))) (gmName 6))
  (mThen (mPar 7 8 (mCons false (mCallW [.io 3, .val] F_law_pick (mKNo 3 (mCons false (mFz (mOp pAdd true (mPrim pLen (mCons true (mName 6) mNil)) (mC (.int (1))))) mNil))) (mCons true (mCallW [.io 3, .val] F_law_one_of (mKNo 3 (mCons false (mC (enc (.list [(.str ""), (.str " "), (.str "e"), (.str "H")]))) mNil))) mNil)))
  (mSet 5 (mOp pAdd true (mOp pAdd true (mSlice (mName 6) (mPure none) (mPart (mName 7))) (mName 8)) (mSlice (mName 6) (mPart (mName 7)) (mPure none)))))) .nx)
  restM)) [.own (.scr (ns.map T.int)), .own rdT, .own (.int st), .own t, x4, r5, r6, r7, r8, r9, r10, r11, r12, r13, r14]).w ⟨I, fun _ _ => False, fun _ => False, fun _ => False, noE⟩ := by
  rw [w_thenS]
  refine O.w_nx (I := fun ρ => ∃ (t' v : T), IsTape t' ∧ v ∈ vals ∧ ρ = [.own (.scr (ns.map T.int)), .own rdT, .own (.int st), .own t', x4, .own v, r6, r7, r8, r9, r10, r11, r12, r13, r14]) ?_ ?_
  · simp_all! only [gmName]
    refine any_t ht fun v t1 hv ht1 => ?_
    simp_all! only [gmName]
    exact ⟨t1, v, ht1, hv, rfl⟩
  rintro ρ ⟨t1, v, ht1, hv, rfl⟩
  dsimp only
  rw [w_thenS]
  refine O.w_nx (I := fun ρ => ∃ (t' v : T) (r6 r7 r8 : Ent), IsTape t' ∧ v ∈ vals ∧ ρ = [.own (.scr (ns.map T.int)), .own rdT, .own (.int st), .own t', x4, .own v, r6, r7, r8, r9, r10, r11, r12, r13, r14]) ?_ ?_
  · simp! only [gmName]
    refine pick_t ht1 (by decide) fun n t2 hn ht2 => ?_
    simp! only [eq_ints]
    refine ite2 (fun _ => ?_) (fun _ => ⟨t2, v, _, _, _, ht2, hv, rfl⟩)
    rw [w_thenS]
    have hfz : (T.lst true (gws.map T.str)).frz = .lst false (gws.map T.str) := rfl
    simp! only [w_fz, list_r, hfz]
    refine one_of_t (ts := gws.map T.str) ht2 (by decide) (isFA_str _) fun u t3 e hu _ ht3 => ?_
    obtain ⟨w, hw, rfl⟩ := List.mem_map.mp hu
    obtain ⟨lw, lb⟩ := len_w hw
    simp! only [T.isF, T.frz, Ent.fz]
    rw [w_thenS]
    simp! only [w_fz, lw, add_i, T.frz, w_par]
    refine pick_t ht3 ⟨by omega, by omega⟩ fun j t4 hj ht4 => ?_
    have e3 : enc (.list [.str "", .str " ", .str "e", .str "H"]) = .lst false (sgs.map T.str) := rfl
    simp! only [e3]
    refine one_of_t (ts := sgs.map T.str) ht4 (by decide) (isFA_str _) fun u t5 e hu _ ht5 => ?_
    obtain ⟨g, hg, rfl⟩ := List.mem_map.mp hu
    obtain ⟨a, b, c, v', c1, c2, c3, c4, hv'⟩ := cat_e hw hj hg
    simp! only [T.isF, Ent.keep, c1, c2, c3, c4]
    exact ⟨t5, v', _, _, _, ht5, hv', rfl⟩
  · rintro ρ ⟨t2, v, r6, r7, r8, ht2, hv, rfl⟩
    obtain ⟨q5, q6, q7, q8, q9, q10, q11, q12, q13, q14, e⟩ := rest_e hv (.own (.scr (ns.map T.int))) (.own (.int st)) (.own t2) x4 r6 r7 r8 r9 r10 r11 r12 r13 r14
    dsimp only
    rw [e]
    exact k t2 ht2 _ _ _ _ _ _ _ _ _ _
theorem law_cut {ns : List Int} (hl : ns.length < 1000) (hb : ∀ z ∈ ns, Builtin.Int.intBits z ≤ 1048576) {tl : List Ent → O} {q2 q3 q4 q5 q6 q7 q8 q9 q10 q11 q12 q13 q14 : Ent} {D : OK} (hD : ∀ ρ, D.rt (.own (.bl true)) ρ)
    (ht : ∀ r2 r3 r4 r5 r6 r7 r8 r9 r10 r11 r12 r13 r14, ∃ ρ, tl [.own (.scr (ns.map T.int)), .own rdT, r2, r3, r4, r5, r6, r7, r8, r9, r10, r11, r12, r13, r14] = .rt (.own (.bl true)) ρ) :
    (mThen (mFor (mRange1 (mPrim pMax (mCons true (mC (.int (1))) (mCons true (mPrim pMin (mCons true (mC (.int (3))) (mCons true (mPrim pLen (mCons true (mName 0) mNil)) mNil))) mNil)))) (gmName 2) (mThen (mSet 3 (mCallR F_law_tape (mCons true (mName 0) (mCons true (mName 2) mNil))))
  (mFor (mRange1 (mC (.int (12)))) (gmName 4) (mThen (mSet 5 (mCallW [.io 3] F_law_any (mKNo 3 mNil)))
  (mThen (mIf (mTest T.bool (mOp pEq2 true (mCallW [.io 3, .val] F_law_pick (mKNo 3 (mCons false (mC (.int (3))) mNil))) (mC (.int (0))))) (mThen (mAsg (mCallW [.io 3, .val] F_law_one_of (mKNo 3 (mCons false (mFz (mPrim pListD (mCons true (mName 1) mNil))) mNil))) (gmName 6))
  (mThen (mPar 7 8 (mCons false (mCallW [.io 3, .val] F_law_pick (mKNo 3 (mCons false (mFz (mOp pAdd true (mPrim pLen (mCons true (mName 6) mNil)) (mC (.int (1))))) mNil))) (mCons true (mCallW [.io 3, .val] F_law_one_of (mKNo 3 (mCons false (mC (enc (.list [(.str ""), (.str " "), (.str "e"), (.str "H")]))) mNil))) mNil)))
  (mSet 5 (mOp pAdd true (mOp pAdd true (mSlice (mName 6) (mPure none) (mPart (mName 7))) (mName 8)) (mSlice (mName 6) (mPart (mName 7)) (mPure none)))))) .nx)
  restM))))) tl [.own (.scr (ns.map T.int)), .own rdT, q2, q3, q4, q5, q6, q7, q8, q9, q10, q11, q12, q13, q14]).w D := by
  rw [w_thenS]
  refine O.w_nx (I := fun ρ => ∃ r2 r3 r4 r5 r6 r7 r8 r9 r10 r11 r12 r13 r14, ρ = [.own (.scr (ns.map T.int)), .own rdT, r2, r3, r4, r5, r6, r7, r8, r9, r10, r11, r12, r13, r14]) ?_ ?_
  · rw [w_for]
    simp! only [w_range1, pLen, pMin, pMax, oB, oI]
    refine ⟨okR_of (by split <;> split <;> omega), ?_⟩
    refine forM_n (fun ts ρ => (∀ t ∈ ts, ∃ i : Int, t = .int i ∧ 0 ≤ i ∧ i < 3) ∧ ∃ r2 r3 r4 r5 r6 r7 r8 r9 r10 r11 r12 r13 r14, ρ = [.own (.scr (ns.map T.int)), .own rdT, r2, r3, r4, r5, r6, r7, r8, r9, r10, r11, r12, r13, r14]) (fun ρ h => h.2) (fun x ts ρ h => ?_) _ _ ⟨fun t q => ?_, _, _, _, _, _, _, _, _, _, _, _, _, _, rfl⟩
    · obtain ⟨h1, r2, r3, r4, r5, r6, r7, r8, r9, r10, r11, r12, r13, r14, rfl⟩ := h
      obtain ⟨st, rfl, hst⟩ := h1 x List.mem_cons_self
      have h1' := fun u q => h1 u (List.mem_cons_of_mem _ q)
      simp! only [T.frz]
      rw [w_thenS]
      refine O.w_nx (I := fun ρ => ∃ t, IsTape t ∧ ρ = [.own (.scr (ns.map T.int)), .own rdT, .own (.int st), .own t, r4, r5, r6, r7, r8, r9, r10, r11, r12, r13, r14]) ?_ ?_
      · simp_all! only [Ent.arg, T.isF, isFA_ints]
        refine tape_t hst hl hb fun t r ht => ?_
        simp_all! only [gmName]
        exact ⟨t, ht, rfl⟩
      rintro ρ ⟨t, ht, rfl⟩
      dsimp only
      rw [w_for, w_range1]
      simp! only [gmName]
      refine ⟨by decide, ?_⟩
      refine forM_n (fun ts ρ => (∀ u ∈ ts, ∃ i : Int, u = .int i) ∧ ∃ (t' : T) (r4 r5 r6 r7 r8 r9 r10 r11 r12 r13 r14 : Ent), IsTape t' ∧ ρ = [.own (.scr (ns.map T.int)), .own rdT, .own (.int st), .own t', r4, r5, r6, r7, r8, r9, r10, r11, r12, r13, r14]) (fun ρ h => ?_) (fun x us ρ h => ?_) _ _ ⟨fun u q => ?_, t, _, _, _, _, _, _, _, _, _, _, _, ht, rfl⟩
      · obtain ⟨_, t', r4, r5, r6, r7, r8, r9, r10, r11, r12, r13, r14, ht', rfl⟩ := h
        exact ⟨h1', _, _, _, _, _, _, _, _, _, _, _, _, _, rfl⟩
      · clear ht
        obtain ⟨h2, t, r4, r5, r6, r7, r8, r9, r10, r11, r12, r13, r14, ht, rfl⟩ := h
        obtain ⟨i, rfl⟩ := h2 x List.mem_cons_self
        have h2' := fun u q => h2 u (List.mem_cons_of_mem _ q)
        simp! only [T.frz]
        refine turn_t ht fun t' ht' _ _ _ _ _ _ _ _ _ _ => ⟨h2', t', _, _, _, _, _, _, _, _, _, _, _, ht', rfl⟩
      · obtain ⟨i, rfl, _, _⟩ := mem_range q
        exact ⟨i, rfl⟩
    · obtain ⟨i, rfl, h1, h2⟩ := mem_range q
      refine ⟨i, rfl, h1, ?_⟩
      split at h2 <;> split at h2 <;> omega
  · rintro ρ ⟨r2, r3, r4, r5, r6, r7, r8, r9, r10, r11, r12, r13, r14, rfl⟩
    dsimp only
    obtain ⟨ρ', e⟩ := ht r2 r3 r4 r5 r6 r7 r8 r9 r10 r11 r12 r13 r14
    rw [e]
    exact hD ρ'
theorem law_t {ns : List Int} (hl : ns.length < 1000) (hb : ∀ z ∈ ns, Builtin.Int.intBits z ≤ 1048576) : (F_law [.own (.scr (ns.map T.int))]).w (fun e _ => e = .own (.bl true)) noE := by
  unfold F_law
  simp! only [gmName]
  rw [w_thenS]
  refine eqO (asg_1 _ _ _ _ _ _ _ _ _ _ _ _ _ _ _) ?_
  refine law_cut (tl := tailM) hl hb (fun ρ => ?_) (tail_q (.own (.scr (ns.map T.int))))
  simp_all! only [gmName]
end Rm
namespace Rm
open PySem PySem.Spec L2
open PyProof.Rows hiding St
def dd_is_mode : He.DefD := ⟨("is_mode", none), "is_mode", "is_mode", defArgs s_is_mode, defBody s_is_mode, defScope s_is_mode, [], []⟩
def dd_Mode___init__ : He.DefD := ⟨("Mode", some "__init__"), "__init__", "Mode.__init__", defArgs s_Mode___init__, defBody s_Mode___init__, defScope s_Mode___init__, [], []⟩
def dd_rank_of : He.DefD := ⟨("rank_of", none), "rank_of", "rank_of", defArgs s_rank_of, defBody s_rank_of, defScope s_rank_of, [], []⟩
def dd_Mode___eq__ : He.DefD := ⟨("Mode", some "__eq__"), "__eq__", "Mode.__eq__", defArgs s_Mode___eq__, defBody s_Mode___eq__, defScope s_Mode___eq__, [], []⟩
def dd_law_tape : He.DefD := ⟨("_law_tape", none), "_law_tape", "_law_tape", defArgs s_law_tape, defBody s_law_tape, defScope s_law_tape, [], []⟩
def dd_law_pick : He.DefD := ⟨("_law_pick", none), "_law_pick", "_law_pick", defArgs s_law_pick, defBody s_law_pick, defScope s_law_pick, [], []⟩
def dd_law_one_of : He.DefD := ⟨("_law_one_of", none), "_law_one_of", "_law_one_of", defArgs s_law_one_of, defBody s_law_one_of, defScope s_law_one_of, [], []⟩
def dd_law_any : He.DefD := ⟨("_law_any", none), "_law_any", "_law_any", defArgs s_law_any, defBody s_law_any, defScope s_law_any, [], []⟩
def dd_law_made : He.DefD := ⟨("_law_made", none), "_law_made", "_law_made", defArgs s_law_made, defBody s_law_made, defScope s_law_made, [], []⟩
def dd_law : He.DefD := ⟨("law", none), "law", "law", defArgs s_law, defBody s_law, defScope s_law, [], []⟩
abbrev PP : Program := (PySem.Challenge.rw_rowmarks_k01_modes_made).prog
abbrev s_BadMode___init__ : Stmt := inClass (topS 3) 0
def ed_BadMode : ErrD := ⟨"BadMode", "value", "value", "BadMode.__init__", s_BadMode___init__⟩
theorem edef_BadMode {w : World} {K : PySem.W.Frag} {mg : Str → Option Value} {base h : Heap} (X : K.In h) (G : h.Ns mainGlobals mg) (hk : ed_BadMode.ok PP K = true) (ho : ed_BadMode.obs K = ed_BadMode.val) : EDef PP w K mg base "BadMode" (He.ga K "BadMode") "value" := by
  obtain ⟨cc, c, fd, T, lk, ⟨kV, doc, pm, an, ct, rfl⟩, xf, no, hi, ht, hg⟩ := ErrD.told hk ho
  exact ⟨⟨_, _, "value", PySem.W.mg_of X G hg, T.o, hi, ht, .all (fun us hl => match us, hl with | [_, _], _ => rfl),
    ok_err T lk (NdefX.nscope_by (show NdefX.nscB _ _ _ (defScope ed_BadMode.st) = true by decide +kernel)) (by rfl) rfl rfl rfl no (by decide +kernel) rfl rfl (fun _ => rfl) (fun _ => rfl) (fun _ => rfl) (fun _ => rfl)⟩, xf, no⟩
def efD (s : Str) : Str := if s = "BadMode" then "value" else Str.empty
theorem efD_BadMode : efD "BadMode" = "value" := by decide
abbrev cD (K : PySem.W.Frag) : VC := ⟨⟨fun s => He.ga K s, fun _ => none⟩, efD⟩
def esD : List ErrD := [ed_BadMode]
def pp_Mode_word : PropD := ⟨"Mode", "word", "Mode.word", s_Mode_word, false⟩
def pp_Mode_rank : PropD := ⟨"Mode", "rank", "Mode.rank", s_Mode_rank, false⟩
def ppD : List PropD := [pp_Mode_word, pp_Mode_rank]
def fnD : List He.DefD := [dd_is_mode, dd_Mode___init__, dd_rank_of, dd_Mode___eq__, dd_law_tape, dd_law_pick, dd_law_one_of, dd_law_any, dd_law_made, dd_law]
def faD : List He.Fa := [.free "len", .free "range", .free "int", .free "isinstance", .free "repr", .free "list", .free "tuple", .free "dict", .free "set", .free "str", .free "bool", .free "max", .free "min", .free "sorted", .free "enumerate", .free "zip", .free "abs", .free "all", .free "any", .free "super", .free "ValueError", .free "TypeError", .glo "law", .glo "WORDS", .cls "Mode", .glo "is_mode", .glo "Mode", .mkr "Mode", .glo "rank_of", .meth "Mode" "__eq__", .glo "_law_tape", .glo "_law_pick", .glo "_law_one_of", .glo "_law_any", .glo "_law_made", .noat "Mode" "term", .exm "BadMode" "BadMode" true]
def exD (K : PySem.W.Frag) : Bool := He.tupB K "WORDS" [.str "hold", .str "keep", .str "change", .str "replace"] && (cstnB K "WORDS" && (isioB K (He.ga K "Mode") (He.ga K "Mode") true && (opsB K (He.ga K "Mode") && (eqoB K (He.ga K "Mode") && (noLst K)))))
def loose0 : List PySem.Str := ["_wall", "MarkError", "BadMode", "WORDS", "is_mode", "rank_of", "stronger_of", "Mode", "_law_tape", "_law_pick", "_law_one_of", "_law_any", "_law_made"]
def looseD : List PySem.Str := loose0
abbrev rowD : PySem.W.OpenRow := PySem.W.OpenLaw.row PySem.Challenge.rw_rowmarks_k01_modes_made
theorem runD (w : World) : HandSHeadRun.RunEq rowD (PySem.W.view rowD.prog [16]) (hookP PP 5 faD fnD esD ppD exD) (fun s => obsP PP 5 faD fnD esD ppD exD (HandSHeadRun.getT s)) 8000 looseD w := by
  intro os
  kernel_rfl
section
variable {w : World} {K : PySem.W.Frag} {mg : Str → Option Value}
theorem factsD {h : Heap} {f : Addr} (X : K.In h) (G : h.Ns mainGlobals mg) (hf : mg ("law" : Str) = some (.ref f)) (c : SaysP PP faD fnD esD ppD exD K) :
    ∃ fd : FuncData, (∀ (s : Shared) (v : Value), BindsTo s fd ⟨[v], []⟩ [("_law_script", v)]) ∧ ∀ base : Heap, FnG PP w K mg base (L2.CX PP w) 6 f fd ["_law_script"] (spV0 (cD K) 1 F_law) := by
  have hf0 := hf
  have cp := c
  have c := cp.e
  obtain ⟨fd_is_mode, U_is_mode⟩ := c.d.def_ 0 (d := dd_is_mode) rfl
  obtain ⟨fd_Mode___init__, U_Mode___init__⟩ := c.d.def_ 1 (d := dd_Mode___init__) rfl
  obtain ⟨fd_rank_of, U_rank_of⟩ := c.d.def_ 2 (d := dd_rank_of) rfl
  obtain ⟨fd_Mode___eq__, U_Mode___eq__⟩ := c.d.def_ 3 (d := dd_Mode___eq__) rfl
  obtain ⟨fd_law_tape, U_law_tape⟩ := c.d.def_ 4 (d := dd_law_tape) rfl
  obtain ⟨fd_law_pick, U_law_pick⟩ := c.d.def_ 5 (d := dd_law_pick) rfl
  obtain ⟨fd_law_one_of, U_law_one_of⟩ := c.d.def_ 6 (d := dd_law_one_of) rfl
  obtain ⟨fd_law_any, U_law_any⟩ := c.d.def_ 7 (d := dd_law_any) rfl
  obtain ⟨fd_law_made, U_law_made⟩ := c.d.def_ 8 (d := dd_law_made) rfl
  obtain ⟨fd_law, U_law⟩ := c.d.def_ 9 (d := dd_law) rfl
  have e := hf.symm.trans (He.glo_ok X G (c.d.fact 22 (f := .glo "law") rfl))
  injection e with e
  injection e with e
  subst e
  have b := FunD.bindsA (ps := ["_law_script"]) U_law fun _ _ _ _ _ _ us hl => match us, hl with | [_], _ => rfl
  have B : Bt mg := ⟨He.free_ok X G (c.d.fact 0 (f := .free "len") rfl), He.free_ok X G (c.d.fact 1 (f := .free "range") rfl), He.free_ok X G (c.d.fact 2 (f := .free "int") rfl), He.free_ok X G (c.d.fact 3 (f := .free "isinstance") rfl), He.free_ok X G (c.d.fact 4 (f := .free "repr") rfl), He.free_ok X G (c.d.fact 5 (f := .free "list") rfl), He.free_ok X G (c.d.fact 6 (f := .free "tuple") rfl), He.free_ok X G (c.d.fact 7 (f := .free "dict") rfl), He.free_ok X G (c.d.fact 8 (f := .free "set") rfl), He.free_ok X G (c.d.fact 9 (f := .free "str") rfl), He.free_ok X G (c.d.fact 10 (f := .free "bool") rfl), He.free_ok X G (c.d.fact 11 (f := .free "max") rfl), He.free_ok X G (c.d.fact 12 (f := .free "min") rfl), He.free_ok X G (c.d.fact 13 (f := .free "sorted") rfl), He.free_ok X G (c.d.fact 14 (f := .free "enumerate") rfl), He.free_ok X G (c.d.fact 15 (f := .free "zip") rfl), He.free_ok X G (c.d.fact 16 (f := .free "abs") rfl), He.free_ok X G (c.d.fact 17 (f := .free "all") rfl), He.free_ok X G (c.d.fact 18 (f := .free "any") rfl), He.free_ok X G (c.d.fact 19 (f := .free "super") rfl), He.free_ok X G (c.d.fact 20 (f := .free "ValueError") rfl), He.free_ok X G (c.d.fact 21 (f := .free "TypeError") rfl)⟩
  have x := c.x
  unfold exD at x
  obtain ⟨x0, x⟩ := Bool.and_eq_true_iff.mp x
  obtain ⟨x1, x⟩ := Bool.and_eq_true_iff.mp x
  obtain ⟨x2, x⟩ := Bool.and_eq_true_iff.mp x
  obtain ⟨x3, x⟩ := Bool.and_eq_true_iff.mp x
  obtain ⟨x4, x⟩ := Bool.and_eq_true_iff.mp x
  have C_WORDS := cst_of X G (c.d.fact 23 (f := .glo "WORDS") rfl) x0
  obtain ⟨fd_Mode_word, U_Mode_word, R_Mode_word⟩ := PropD.told (cp.ok pp_Mode_word (by simp [ppD])) (cp.ob pp_Mode_word (by simp [ppD]))
  have A_Mode_word := atP_of (d := pp_Mode_word) (c.d.fact 24 (f := .cls "Mode") rfl) U_Mode_word R_Mode_word fun _ _ _ _ _ _ us hl => match us, hl with | [_], _ => rfl
  obtain ⟨fd_Mode_rank, U_Mode_rank, R_Mode_rank⟩ := PropD.told (cp.ok pp_Mode_rank (by simp [ppD])) (cp.ob pp_Mode_rank (by simp [ppD]))
  have A_Mode_rank := atP_of (d := pp_Mode_rank) (c.d.fact 24 (f := .cls "Mode") rfl) U_Mode_rank R_Mode_rank fun _ _ _ _ _ _ us hl => match us, hl with | [_], _ => rfl
  have A_is_mode := at_of (x := "is_mode") (st := s_is_mode) (ps := ["value"]) X G (c.d.fact 25 (f := .glo "is_mode") rfl) U_is_mode fun _ _ _ _ _ _ us hl => match us, hl with | [_], _ => rfl
  have A_Mode___init__ := atI_of (x := "Mode") (qual := "Mode.__init__") (st := s_Mode___init__) (ps := ["self", "word"]) X G (c.d.fact 26 (f := .glo "Mode") rfl) (c.d.fact 24 (f := .cls "Mode") rfl) (c.d.fact 27 (f := .mkr "Mode") rfl) U_Mode___init__ fun _ _ _ _ _ _ us hl => match us, hl with | [_, _], _ => rfl
  have A_rank_of := at_of (x := "rank_of") (st := s_rank_of) (ps := ["word"]) X G (c.d.fact 28 (f := .glo "rank_of") rfl) U_rank_of fun _ _ _ _ _ _ us hl => match us, hl with | [_], _ => rfl
  have A_Mode___eq__ := atM_of (x := "Mode") (m := "__eq__") (qual := "Mode.__eq__") (st := s_Mode___eq__) (ps := ["self", "other"]) (c.d.fact 24 (f := .cls "Mode") rfl) (c.d.fact 29 (f := .meth "Mode" "__eq__") rfl) U_Mode___eq__ fun _ _ _ _ _ _ us hl => match us, hl with | [_, _], _ => rfl
  have A_law_tape := at_of (x := "_law_tape") (st := s_law_tape) (ps := ["_law_script", "_law_start"]) X G (c.d.fact 30 (f := .glo "_law_tape") rfl) U_law_tape fun _ _ _ _ _ _ us hl => match us, hl with | [_, _], _ => rfl
  have A_law_pick := at_of (x := "_law_pick") (st := s_law_pick) (ps := ["_law_tape_here", "_law_many"]) X G (c.d.fact 31 (f := .glo "_law_pick") rfl) U_law_pick fun _ _ _ _ _ _ us hl => match us, hl with | [_, _], _ => rfl
  have A_law_one_of := at_of (x := "_law_one_of") (st := s_law_one_of) (ps := ["_law_tape_here", "_law_items"]) X G (c.d.fact 32 (f := .glo "_law_one_of") rfl) U_law_one_of fun _ _ _ _ _ _ us hl => match us, hl with | [_, _], _ => rfl
  have A_law_any := at_of (x := "_law_any") (st := s_law_any) (ps := ["_law_tape_here"]) X G (c.d.fact 33 (f := .glo "_law_any") rfl) U_law_any fun _ _ _ _ _ _ us hl => match us, hl with | [_], _ => rfl
  have A_law_made := at_of (x := "_law_made") (st := s_law_made) (ps := ["_law_value"]) X G (c.d.fact 34 (f := .glo "_law_made") rfl) U_law_made fun _ _ _ _ _ _ us hl => match us, hl with | [_], _ => rfl
  have A_law := at_of (x := "law") (st := s_law) (ps := ["_law_script"]) X G (c.d.fact 22 (f := .glo "law") rfl) U_law fun _ _ _ _ _ _ us hl => match us, hl with | [_], _ => rfl
  have CN_WORDS : CstN K mg "WORDS" ["hold", "keep", "change", "replace"] := cstN_of X G (c.d.fact 23 (f := .glo "WORDS") rfl) x0 x1
  have OP_Mode : OwnOps K (He.ga K "Mode") := opsB_ok x3
  have EQ_Mode : EqOps K (He.ga K "Mode") := eqoB_ok x4
  have IO_Mode_Mode : IsiO K (He.ga K "Mode") (He.ga K "Mode") true := isioB_ok (He.cls_ok (c.d.fact 24 (f := .cls "Mode") rfl)) x2
  have hk_BadMode := c.ok ed_BadMode (by simp [esD])
  have ho_BadMode := c.ob ed_BadMode (by simp [esD])
  refine ⟨fd_law, fun s v => b s [v] rfl, fun base => ?_⟩
  have E_BadMode : EDef PP w K mg base "BadMode" ((cD K).ca.cl "BadMode") ((cD K).ef "BadMode") := edef_BadMode X G hk_BadMode ho_BadMode
  have D_is_mode : Def PP w K mg base "is_mode" ["value"] 1 (spV0 (cD K) 1 F_is_mode) := ok_is_mode (P := PP) (c := cD K) A_is_mode B C_WORDS
  have O_Mode___init__ := fo_Mode___init__ (P := PP) (w := w) (mg := mg) (base := base) (c := cD K) A_Mode___init__ B E_BadMode (He.cls_ok (c.d.fact 24 (f := .cls "Mode") rfl)) (He.noat_ok (c.d.fact 35 (f := .noat "Mode" "term") rfl)) D_is_mode
  have D_Mode___init__ : CDef PP w K mg base "Mode" ((cD K).ca.cl "Mode") ["self", "word"] 3 (spV0 (cD K) 2 F_Mode___init__) := ok_Mode___init__ (P := PP) (c := cD K) A_Mode___init__ B E_BadMode (He.cls_ok (c.d.fact 24 (f := .cls "Mode") rfl)) (He.noat_ok (c.d.fact 35 (f := .noat "Mode" "term") rfl)) D_is_mode
  have D_rank_of : Def PP w K mg base "rank_of" ["word"] 1 (spV0 (cD K) 1 F_rank_of) := ok_rank_of (P := PP) (c := cD K) A_rank_of B CN_WORDS C_WORDS
  have D_Mode_word : PDef PP w K mg base ((cD K).ca.cl "Mode") "word" 1 (spV0 (cD K) 1 F_Mode_word) := ok_Mode_word (P := PP) (c := cD K) A_Mode_word B (He.cls_ok (c.d.fact 24 (f := .cls "Mode") rfl)) (He.noat_ok (c.d.fact 35 (f := .noat "Mode" "term") rfl))
  have D_Mode_rank : PDef PP w K mg base ((cD K).ca.cl "Mode") "rank" 2 (spV0 (cD K) 1 F_Mode_rank) := ok_Mode_rank (P := PP) (c := cD K) A_Mode_rank B (He.cls_ok (c.d.fact 24 (f := .cls "Mode") rfl)) (He.noat_ok (c.d.fact 35 (f := .noat "Mode" "term") rfl)) D_rank_of
  have O_Mode___eq__ := fo_Mode___eq__ (P := PP) (w := w) (mg := mg) (base := base) (c := cD K) A_Mode___eq__ B IO_Mode_Mode (He.glo_ok X G (c.d.fact 26 (f := .glo "Mode") rfl)) EQ_Mode (He.cls_ok (c.d.fact 24 (f := .cls "Mode") rfl)) (He.noat_ok (c.d.fact 35 (f := .noat "Mode" "term") rfl))
  have D_Mode___eq__ : MDef PP w K mg base ((cD K).ca.cl "Mode") "__eq__" ["self", "other"] 1 (spV0 (cD K) 2 F_Mode___eq__) := ok_Mode___eq__ (P := PP) (c := cD K) A_Mode___eq__ B IO_Mode_Mode (He.glo_ok X G (c.d.fact 26 (f := .glo "Mode") rfl)) EQ_Mode (He.cls_ok (c.d.fact 24 (f := .cls "Mode") rfl)) (He.noat_ok (c.d.fact 35 (f := .noat "Mode" "term") rfl))
  have D_law_tape : Def PP w K mg base "_law_tape" ["_law_script", "_law_start"] 1 (spV0 (cD K) 2 F_law_tape) := ok_law_tape (P := PP) (c := cD K) A_law_tape B
  have D_law_pick : Def PP w K mg base "_law_pick" ["_law_tape_here", "_law_many"] 1 (spV0 (cD K) 2 F_law_pick) := ok_law_pick (P := PP) (c := cD K) A_law_pick B
  have D_law_one_of : Def PP w K mg base "_law_one_of" ["_law_tape_here", "_law_items"] 2 (spV0 (cD K) 2 F_law_one_of) := ok_law_one_of (P := PP) (c := cD K) A_law_one_of B D_law_pick
  have D_law_any : Def PP w K mg base "_law_any" ["_law_tape_here"] 3 (spV0 (cD K) 1 F_law_any) := ok_law_any (P := PP) (c := cD K) A_law_any B D_law_one_of
  have D_law_made : Def PP w K mg base "_law_made" ["_law_value"] 5 (spV0 (cD K) 1 F_law_made) := ok_law_made (P := PP) (c := cD K) A_law_made B E_BadMode (of_decide_eq_true (c.d.fact 36 (f := .exm "BadMode" "BadMode" true) rfl)) efD_BadMode D_Mode___init__ D_Mode_word D_Mode_rank
  have D_law : DefG PP w K mg base "law" ["_law_script"] 6 (spV0 (cD K) 1 F_law) := ok_law (P := PP) (c := cD K) A_law B D_Mode___init__ D_Mode___eq__ EQ_Mode OP_Mode D_law_tape D_law_any D_law_pick D_law_one_of D_law_made
  exact D_law.fn A_law
theorem noD (c : SaysP PP faD fnD esD ppD exD K) : noLst K = true := by
  have x := c.e.x
  unfold exD at x
  obtain ⟨x0, x⟩ := Bool.and_eq_true_iff.mp x
  obtain ⟨x1, x⟩ := Bool.and_eq_true_iff.mp x
  obtain ⟨x2, x⟩ := Bool.and_eq_true_iff.mp x
  obtain ⟨x3, x⟩ := Bool.and_eq_true_iff.mp x
  obtain ⟨x4, x⟩ := Bool.and_eq_true_iff.mp x
  exact x
end
end Rm
open PySem PySem.W PySem.Calls PyProof.Rows in
theorem PySem.Challenge.cw_rowmarks_k01_modes_made_holds : PySem.Challenge.rw_rowmarks_k01_modes_made.Holds := by
  w_on; o_law
  refine HandSHeadRun.head_any (r := OpenLaw.row PySem.Challenge.rw_rowmarks_k01_modes_made) (q := view (OpenLaw.row PySem.Challenge.rw_rowmarks_k01_modes_made).prog [16]) (H := Rm.hookP Rm.PP 5 Rm.faD Rm.fnD Rm.esD Rm.ppD Rm.exD) (ob := fun s => Rm.obsP Rm.PP 5 Rm.faD Rm.fnD Rm.esD Rm.ppD Rm.exD (HandSHeadRun.getT s)) (M := 8000) (loose := Rm.looseD) (d := HandSHeadRun.topDef (OpenLaw.row PySem.Challenge.rw_rowmarks_k01_modes_made).prog 16) (kwd := []) Rm.obsP_eq
    (by kernel_rfl) (fun s => by kernel_rfl) Rm.runD (by kernel_rfl) (by kernel_rfl) (by kernel_rfl) (by rfl) (by first | assumption | decide +kernel) (by decide +kernel) ⟨rfl, rfl, rfl, rfl, rfl, by decide +kernel⟩ ?hw ?hc
  case hw => w_witness2
  case hc =>
    refine Rm.walkG (l := PySem.Challenge.rw_rowmarks_k01_modes_made) (n := 63) (k := 6) (x := "_law_script") rfl (by decide) (by kernel_rfl) ⟨rfl, by decide, by decide⟩ fun w mg fa h Y G hmg => ?_
    obtain ⟨K, KX, c⟩ := Y
    have en : (HandSHeadRun.topDef (OpenLaw.row PySem.Challenge.rw_rowmarks_k01_modes_made).prog 16).name = ("law" : PySem.Str) := by kernel_rfl
    rw [en] at hmg
    obtain ⟨fd, hb, hF⟩ := Rm.factsD (w := w) KX G hmg c
    exact ⟨K, fd, _, KX, hb, fun H a ns hl hbits _ hS => Rm.endV (Rm.noD c) hS (Rm.law_t (Nat.lt_of_le_of_lt hl (by decide)) hbits), fun base _ _ => hF base⟩
