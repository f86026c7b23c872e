import PyProof.Rows.All
import Wide.All
import OpenK.AllK
import Wide.FinOn
import HandS.ForMost
import HandS.Exc
import HandS.ExcOwn
import HandS.WordsExc
import HandS.IsInst
import HandS.Conv
import HandS.More
import HandS.Style
import HandS.Defaults
import HandS.EndBits
import PyProof.ReprRoads
import HandS.TupAny
import HandS.TupLe
import HandS.Wide
import HandS.Records
import HandS.CallSlots
import HandS.Comp
import HandS.Walk
import HandS.Iter
import HandS.Text
import HandS.Steps
import KE.KStateDown
import HandS.Head0
import HandS.Head1
import HandS.Head2
import HandS.HeadHook1
import HandS.HeadHook2
import KE.KExcSuper
import KE.KSuper
import HandS.Base
import HandS.Call
import HandS.ExcInit
import HandS.ExcField
import HandS.TryMany
import HandS.Nested
import HandS.Property
import HandS.TryOnly
import HandS.ForExc
import HandS.OwnEq
import HandS.Lambda
import HandS.DictEq
import HandS.SetFor
import HandS.HeadNt
import HandS.ClsMeth
import HandS.NoneIn
import KE.KNest
import HandS.Strs
import HandS.SortInts
import PyProof.NeKinds
import PyProof.WalkInts
import PyProof.Rows.MinMaxN
import PyProof.WalksMore
import PyProof.Rows.SortStr
import KE.SortData
import HandS.SortOrd
import HandS.TupSets
import HandS.DictTup
import HandS.SetBool
import HandS.RaiseMore
import HandS.Star
import HandS.FStr
import PySem.Challenge.RW_rowmarks_k90_texts_that_are_no_histories
import PyProof.StrBlock2
import PyProof.StrLawsTight
import KE.GoesMore
import KE.IntTextLaws
import KE.KStrOpen
set_option Elab.async false
set_option linter.all false
set_option maxRecDepth 100000
set_option maxHeartbeats 0
/-! Rm, part A: promises of defs that call repr (no repr is under way around them). -/
namespace Rm
open PySem PySem.Spec L2
open PyProof.Rows hiding St
/-- a def's promise where no repr is under way -/
structure FnG (P : Program) (w : World) (K : PySem.W.Frag) (mg : Str → Option Value) (base : Heap) (cx : CXT) (k : Nat) (f : Addr) (fd : FuncData) (ps : List Str) (sp : Sp) : Prop where
  len : ∀ vs H Q E, sp vs H Q E → vs.length = ps.length
  go : ∀ (A : Around), A.guards = some [] → Room k A → ∀ (outer : List Env) (s : Shared) (H : Hp) (args : Args) (us : List Value) (vs : List V) (Q : VK) (E : XK),
    Env0 P w K mg base A outer s H → BindsTo s fd args (ps.zip us) → Vals vs us → sp vs H Q E → codeAny (model P w) A (.call (.ref f) args) (CR cx outer P w H s Q E) s
theorem FnG.of {P : Program} {w : World} {K : PySem.W.Frag} {mg : Str → Option Value} {base : Heap} {cx : CXT} {k : Nat} {f : Addr} {fd : FuncData} {ps : List Str} {sp : Sp}
    (F : FnOk P w K mg base cx k f fd ps sp) : FnG P w K mg base cx k f fd ps sp := ⟨F.len, fun A _ hr outer s H args us vs Q E e0 hb hv hs => F.run A outer s H args us vs Q E hr e0 hb hv hs⟩
section
variable {P : Program} {w : World} {K : PySem.W.Frag} {mg : Str → Option Value} {base : Heap}
/-- the rule for a def's body, its code object known -/
theorem okGc {cx : CXT} {x qual : Str} {params : Arguments} {body : List Stmt} {scope : Scope} {dvs : List V} {kws : List (Str × V)} {f : Addr} {fd : FuncData} {N ps : List Str} {k : Nat} {sp : Sp}
    (F : FunD K x qual params body scope dvs kws f fd) (S : FnScope N ps scope) (len : ∀ vs H Q E, sp vs H Q E → vs.length = ps.length)
    (hb : ∀ (cdv : Value), cdv = fd.code → ∀ (A : Around) (outer : List Env) (s : Shared) (H : Hp) (vs : List V) (Q : VK) (E : XK), A.guards = some [] → Room k (A.deeper (envOfC qual scope s.heap.objs.size f cdv)) → sp vs H Q E →
      ∃ t, PSs (cxOf cx P w K mg base N qual scope f cdv A outer s H E) body t ∧ t { nx := fun _ H' => Q .non H', rt := Q } (start N vs) H) : FnG P w K mg base cx (k + 1) f fd ps sp := by
  obtain ⟨oc, od, dV, kV, doc, pm, an, cdv, ct, osl, rfl, lk, hcd, _, _⟩ := F.ex
  refine ⟨len, fun A hG hr outer s H args us vs Q E e0 hbd r hsp => ?_⟩
  have ll : vs.length = ps.length := len _ _ _ _ hsp
  have kx : K.In s.heap := e0.mod.kin.keeps fun b o e => (e0.bs b o e).1
  have hlim : s.heap.NoLimit := e0.mod.nolimit.keeps fun b o e => (e0.bs b o e).1
  refine codeAny_call_function hr.depth (kx _ _ lk) rfl S.co S.gen rfl (PySem.W.codeRec_of kx hcd) (hbd _ _ _ _ ?_)
  refine wpAny_newFunctionEnv_cells S.kind (fun y hy => ?_) fun env he s1 x => ?_
  · obtain ⟨n, v⟩ := y
    rcases S.par n (List.of_mem_zip hy).1 with q | q
    · exact Or.inl q
    · exact Or.inr ⟨q, PySem.W.cellsFrom_some _ _ _ (Or.inl q)⟩
  subst he
  refine ⟨hlim.keeps x.toInCall.keep, codeAny_func ?_⟩
  obtain ⟨t, ht, hq⟩ := hb cdv rfl A outer s H vs Q E hG (hr.deeper _) hsp
  refine wpAny_mono (ht.run [] s1 (start N vs) H _ (inv_start S hr.hd e0 ll r x) hq) (fun fl s' hs => ?_) fun e s' hs => hs
  cases fl with
  | ret u =>
    obtain ⟨v, σ', H', J, rv, q⟩ := hs
    exact ⟨v, H', J.os, J.bare, J.base, J.hok, rv, q⟩
  | next =>
    obtain ⟨σ', H', J, q⟩ := hs
    exact ⟨V.non, H', J.os, J.bare, J.base, J.hok, rfl, q⟩
  | brk =>
    obtain ⟨_, _, _, q⟩ := hs
    cases q
  | cont =>
    obtain ⟨_, _, _, q⟩ := hs
    cases q
/-- the rule for a def's body -/
theorem okG {cx : CXT} {x qual : Str} {params : Arguments} {body : List Stmt} {scope : Scope} {dvs : List V} {kws : List (Str × V)} {f : Addr} {fd : FuncData} {N ps : List Str} {k : Nat} {sp : Sp}
    (F : FunD K x qual params body scope dvs kws f fd) (S : FnScope N ps scope) (len : ∀ vs H Q E, sp vs H Q E → vs.length = ps.length)
    (hb : ∀ (cdv : Value) (A : Around) (outer : List Env) (s : Shared) (H : Hp) (vs : List V) (Q : VK) (E : XK), A.guards = some [] → Room k (A.deeper (envOfC qual scope s.heap.objs.size f cdv)) → sp vs H Q E →
      ∃ t, PSs (cxOf cx P w K mg base N qual scope f cdv A outer s H E) body t ∧ t { nx := fun _ H' => Q .non H', rt := Q } (start N vs) H) : FnG P w K mg base cx (k + 1) f fd ps sp := okGc F S len fun cdv _ => hb cdv
end
end Rm
/-! Rm, part B: data as a whole (dicts too), repr of data. -/
namespace Rm
open PySem PySem.Spec L2
open PyProof.Rows hiding St
def keyD : Key → PyData
  | .inl i => .int i
  | .inr x => .str x
/-- what is read at a (a locked thing as what it is) -/
def rdo (H : Hp) (a : Addr) : Option HO := match H a with
  | some (.frz _ u) => some u
  | r => r
theorem rdo_of {H : Hp} {a : Addr} {u : HO} (h : H a = some u) (hn : ∀ o v, u ≠ .frz o v) : rdo H a = some u := by
  unfold rdo
  rw [h]
  cases u <;> first | rfl | exact absurd rfl (hn _ _)
theorem rdo_rd {H : Hp} {a : Addr} {u : HO} (h : rdo H a = some u) : Rd H a u := by
  unfold rdo at h
  split at h
  · rename_i o v e
    cases h
    exact Or.inr ⟨o, e⟩
  · exact Or.inl h
theorem rdo_some {H : Hp} {a : Addr} {u : HO} (h : rdo H a = some u) : ∃ o, H a = some o := by
  rcases rdo_rd h with e | ⟨o, e⟩
  · exact ⟨_, e⟩
  · exact ⟨_, e⟩
theorem rdo_l {K : PySem.W.Frag} {H : Hp} {a : Addr} {xs : List V} (h : rdo H a = some (.lst xs)) : SqL K H a xs := Or.inl (rdo_rd h)
theorem rdo_t {K : PySem.W.Frag} {H : Hp} {a : Addr} {xs : List V} (h : rdo H a = some (.tup xs)) : SqT K H a xs := Or.inl (rdo_rd h)
mutual
/-- v stands for the data d in H -/
inductive Dr (H : Hp) : V → PyData → Prop
  | non : Dr H .non .none
  | bl (b : Bool) : Dr H (.bl b) (.bool b)
  | int (i : Int) : Dr H (.int i) (.int i)
  | str (x : Str) : Dr H (.str x) (.str x)
  | lst {a : Addr} {xs : List V} {ds : List PyData} : rdo H a = some (.lst xs) → DrA H xs ds → Dr H (.ref a) (.list ds)
  | tup {a : Addr} {xs : List V} {ds : List PyData} : rdo H a = some (.tup xs) → DrA H xs ds → Dr H (.ref a) (.tuple ds)
  | dct {a : Addr} {kvs : List (Key × V)} {ds : List (PyData × PyData)} : rdo H a = some (.dK kvs) → DrK H kvs ds → Dr H (.ref a) (.dict ds)
inductive DrA (H : Hp) : List V → List PyData → Prop
  | nil : DrA H [] []
  | cons {v : V} {vs : List V} {d : PyData} {ds : List PyData} : Dr H v d → DrA H vs ds → DrA H (v :: vs) (d :: ds)
inductive DrK (H : Hp) : List (Key × V) → List (PyData × PyData) → Prop
  | nil : DrK H [] []
  | cons {k : Key} {v : V} {kvs : List (Key × V)} {d : PyData} {ds : List (PyData × PyData)} : Dr H v d → DrK H kvs ds → DrK H ((k, v) :: kvs) ((keyD k, d) :: ds)
end
/-- what is read stays -/
def Ext (H H' : Hp) : Prop := ∀ a o, H a = some o → H' a = some o
theorem Ext.refl (H : Hp) : Ext H H := fun _ _ h => h
theorem Ext.trans {H H1 H2 : Hp} (a : Ext H H1) (b : Ext H1 H2) : Ext H H2 := fun x o h => b x o (a x o h)
theorem Ext.new {H : Hp} {p : Addr} {o : HO} (h : H p = none) : Ext H (upd H p o) := fun a u e => (upd_ne (ne_of_none e h)).trans e
theorem Ext.o {H H' : Hp} {a : Addr} {u : HO} (e : Ext H H') (h : rdo H a = some u) : rdo H' a = some u := by
  obtain ⟨o, q⟩ := rdo_some h
  unfold rdo at h ⊢
  rw [e a o q]
  rw [q] at h
  exact h
theorem Ext.rd {H H' : Hp} {a : Addr} {u : HO} (e : Ext H H') (h : Rd H a u) : Rd H' a u := h.imp (e _ _) fun ⟨o, z⟩ => ⟨o, e _ _ z⟩
theorem Ext.l {K : PySem.W.Frag} {H H' : Hp} {a : Addr} {xs : List V} (e : Ext H H') (h : SqL K H a xs) : SqL K H' a xs := h.imp e.rd id
theorem Ext.t {K : PySem.W.Frag} {H H' : Hp} {a : Addr} {xs : List V} (e : Ext H H') (h : SqT K H a xs) : SqT K H' a xs := h.imp e.rd id
section
variable {H H' : Hp}
mutual
theorem Dr.ext (e : Ext H H') : ∀ {v : V} {d : PyData}, Dr H v d → Dr H' v d
  | _, _, .non => .non
  | _, _, .bl b => .bl b
  | _, _, .int i => .int i
  | _, _, .str x => .str x
  | _, _, .lst h a =>   .lst (e.o h) (DrA.ext e a)
  | _, _, .tup h a => .tup (e.o h) (DrA.ext e a)
  | _, _, .dct h a => .dct (e.o h) (DrK.ext e a)
theorem DrA.ext (e : Ext H H') : ∀ {vs : List V} {ds : List PyData}, DrA H vs ds → DrA H' vs ds
  | _, _, .nil => .nil
  | _, _, .cons h a => .cons (Dr.ext e h) (DrA.ext e a)
theorem DrK.ext (e : Ext H H') : ∀ {kvs : List (Key × V)} {ds : List (PyData × PyData)}, DrK H kvs ds → DrK H' kvs ds
  | _, _, .nil => .nil
  | _, _, .cons h a => .cons (Dr.ext e h) (DrK.ext e a)
end
theorem DrA.length {vs : List V} {ds : List PyData} (h : DrA H vs ds) : vs.length = ds.length := by
  induction vs generalizing ds with
  | nil => cases h; rfl
  | cons v vs ih =>
    cases h with
    | cons _ a => simp [ih a]
theorem DrA.get {vs : List V} {ds : List PyData} (h : DrA H vs ds) {i : Nat} {d : PyData} (e : ds[i]? = some d) : ∃ v, vs[i]? = some v ∧ Dr H v d := by
  induction vs generalizing ds i with
  | nil => cases h; simp at e
  | cons v vs ih =>
    cases h with
    | cons h a =>
      cases i with
      | zero => simp at e; subst e; exact ⟨v, rfl, h⟩
      | succ i => simp at e; simpa using ih a e
end
section
variable {X : Cx} {pins : List (Addr × Obj)} {σ : St} {H : Hp} {s : Shared}
theorem keyD_reads {k : Key} {u : Value} (h : keyIs k u = true) : Reads s.heap u (keyD k) [] := by
  rcases keyIs_shape h with ⟨i, t, rfl, rfl⟩ | ⟨x, t, rfl, rfl⟩
  · exact Reads.int i t
  · exact Reads.str x t
theorem keyD_repr {k : Key} {u : Value} {h0 : Heap} (h : keyIs k u = true) (hs : (keyD k).showable = true) (hz : (keyD k).shown.length ≤ sizeLine) (n : Nat) : ReprK X.prog X.w [] h0 n u (keyD k).shown := by
  rcases keyIs_shape h with ⟨i, t, rfl, rfl⟩ | ⟨x, t, rfl, rfl⟩
  · simp only [keyD, PyData.shown] at hz ⊢
    exact ReprK.of_is (ReprIs.int t (by simpa [keyD, PyData.showable] using hs)) _ _ _
  · simp only [keyD, PyData.shown] at hz ⊢
    exact ReprK.of_is (ReprIs.str x t hz) _ _ _
/-- what repr wants of a value: it is read, and its text is known -/
def Shows (P : Program) (w : World) (h : Heap) (u : Value) (d : PyData) : Prop :=
  (∃ as, Reads h u d as) ∧ ∃ bs, ReadAtMost h d.depth bs ∧ ReprK P w bs h d.depth u d.shown
def ShowsA (P : Program) (w : World) (h : Heap) (us : List Value) (ds : List PyData) : Prop :=
  (∃ as, ReadsAll h us ds as) ∧ ∃ bs, ReadAtMost h (PyData.depthAll ds) bs ∧ ReprAllK P w bs h (PyData.depthAll ds) us (PyData.shownAll ds)
theorem ShowsA.cons {P : Program} {w : World} {h : Heap} {u : Value} {us : List Value} {d : PyData} {ds : List PyData} (a : Shows P w h u d) (b : ShowsA P w h us ds) : ShowsA P w h (u :: us) (d :: ds) := by
  obtain ⟨⟨a1, ra⟩, b1, c1, k1⟩ := a
  obtain ⟨⟨a2, rb⟩, b2, c2, k2⟩ := b
  refine ⟨⟨_, ReadsAll.cons ra rb⟩, b1 ++ b2, ?_, ?_⟩
  · simp only [PyData.depthAll]
    exact (c1.mono (Nat.le_max_left _ _)).append (c2.mono (Nat.le_max_right _ _))
  · simp only [PyData.depthAll, PyData.shownAll]
    exact ReprAllK.cons ((k1.more fun b hb => List.mem_append_left _ hb).level_le (Nat.le_max_left _ _)) (k2.more_le (fun b hb => List.mem_append_right _ hb) (Nat.le_max_right _ _))
theorem shows_nil {P : Program} {w : World} {h : Heap} : ShowsA P w h [] [] := ⟨⟨_, .nil⟩, [], (fun _ z => nomatch z), by simp only [PyData.shownAll]; exact .nil⟩
theorem shows_leaf {P : Program} {w : World} {h : Heap} {u : Value} {d : PyData} (r : Reads h u d []) (k : ReprIs P w u d.shown) : Shows P w h u d := ⟨⟨_, r⟩, [], (fun _ z => nomatch z), ReprK.of_is k _ _ _⟩
/-- a list, a tuple, a dict by its parts -/
theorem shows_list {P : Program} {w : World} {h : Heap} {a : Addr} {o : Obj} {us : List Value} {n : Nat} {ds : List PyData} (h1 : h.get? a = some o) (h2 : o.cls = .type "list") (h3 : o.data = .seq us.toArray n) (A : ShowsA P w h us ds) : Shows P w h (.ref a) (.list ds) := by
  obtain ⟨⟨as, r⟩, bs, c, k⟩ := A
  have R : Reads h (.ref a) (.list ds) (a :: as) := Reads.list h1 h2 h3 r
  have na : a ∉ bs := not_mem_of_deeper R (by simp only [PyData.depth]; omega) c
  refine ⟨⟨_, R⟩, a :: bs, ReadAtMost.cons R (by simp only [PyData.depth]; omega) c, ?_⟩
  simp only [PyData.depth, PyData.shown]
  cases us with
  | nil =>
    cases r
    simp only [PyData.shownAll, listText_nil]
    exact ReprK.listEmpty h1 h2 h3
  | cons x l => exact ReprK.list h1 h2 h3 na (by simpa using k.length_eq) (fun i y e => k.item i y (by simpa using e))
theorem shows_tuple {P : Program} {w : World} {h : Heap} {a : Addr} {o : Obj} {us : List Value} {n : Nat} {ds : List PyData} (h1 : h.get? a = some o) (h2 : o.cls = .type "tuple") (h3 : o.data = .seq us.toArray n) (A : ShowsA P w h us ds) : Shows P w h (.ref a) (.tuple ds) := by
  obtain ⟨⟨as, r⟩, bs, c, k⟩ := A
  have R : Reads h (.ref a) (.tuple ds) as := Reads.tuple h1 h2 h3 r
  have na : a ∉ bs := not_mem_of_deeper R (by simp only [PyData.depth]; omega) c
  refine ⟨⟨_, R⟩, a :: bs, ReadAtMost.cons R (by simp only [PyData.depth]; omega) c, ?_⟩
  simp only [PyData.depth, PyData.shown]
  exact ReprK.tuple h1 h2 h3 na k
theorem shows_dict {P : Program} {w : World} {h : Heap} {a : Addr} {o : Obj} {es : Array DictEntry} {n : Nat} {ds : List (PyData × PyData)} (h1 : h.get? a = some o) (h2 : o.cls = .type "dict") (h3 : o.data = .dict es n) (hsys : (a == sysModules) = false)
    (A : ShowsA P w h (es.toList.map (·.key)) (ds.map (·.1))) (B : ShowsA P w h (es.toList.map (·.val)) (ds.map (·.2))) : Shows P w h (.ref a) (.dict ds) := by
  obtain ⟨⟨as, ra⟩, b1, c1, k1⟩ := A
  obtain ⟨⟨bs, rb⟩, b2, c2, k2⟩ := B
  have R := Reads.dict h1 h2 h3 ra rb
  have c : ReadAtMost h (PyData.depthKv ds) (b1 ++ b2) := (c1.mono (PyData.depthAll_keys_le ds)).append (c2.mono (PyData.depthAll_vals_le ds))
  have na : a ∉ b1 ++ b2 := not_mem_of_deeper R (by simp only [PyData.depth]; omega) c
  refine ⟨⟨_, R⟩, a :: (b1 ++ b2), ReadAtMost.cons R (by simp only [PyData.depth]; omega) c, ?_⟩
  simp only [PyData.depth, PyData.shown, PyData.shownKv_eq]
  exact ReprK.dict h1 h2 h3 hsys na (ReprEntriesK.of_two es.toList _ _
    (k1.more_le (fun b hb => List.mem_append_left _ hb) (PyData.depthAll_keys_le ds)) (k2.more_le (fun b hb => List.mem_append_right _ hb) (PyData.depthAll_vals_le ds)))
mutual
theorem Dr.shows (I : Inv X pins σ H s) : ∀ (d : PyData) (v : V) (u : Value), Dr H v d → RelV v u → d.showable = true → d.shown.length ≤ sizeLine → Shows X.prog X.w s.heap u d
  | .none, _, _, h, r, _, _ => by
    cases h; cases r
    exact shows_leaf .none (by simp only [PyData.shown]; exact ReprIs.none)
  | .bool b, _, _, h, r, _, _ => by
    cases h; cases r
    exact shows_leaf (.bool b) (by simp only [PyData.shown]; exact ReprIs.bool b)
  | .int i, _, _, h, r, hs, _ => by
    cases h
    obtain ⟨t, rfl⟩ := r
    exact shows_leaf (.int i t) (by simp only [PyData.shown]; exact ReprIs.int t (by simpa [PyData.showable] using hs))
  | .str x, _, _, h, r, _, hz => by
    cases h
    obtain ⟨t, rfl⟩ := r
    exact shows_leaf (.str x t) (by simp only [PyData.shown] at hz ⊢; exact ReprIs.str x t hz)
  | .list ds, _, _, h, r, hs, hz => by
    cases h with
    | lst hq ha =>
      cases r
      obtain ⟨its, rv, ⟨o, n, ho, hc, _, hd⟩, _⟩ := I.list (rdo_l hq)
      exact shows_list ho hc hd (DrA.shows I ds _ its ha rv (by simpa [PyData.showable] using hs) fun t ht => Nat.le_trans (listText_mem_le ht) (by simpa only [PyData.shown] using hz))
  | .tuple ds, _, _, h, r, hs, hz => by
    cases h with
    | tup hq ha =>
      cases r
      obtain ⟨its, rv, ⟨o, ho, hc, n, hd⟩, _⟩ := I.tuple (rdo_t hq)
      exact shows_tuple ho hc hd (DrA.shows I ds _ its ha rv (by simpa [PyData.showable] using hs) fun t ht => Nat.le_trans (tupleText_mem_le ht) (by simpa only [PyData.shown] using hz))
  | .dict ds, _, _, h, r, hs, hz => by
    cases h with
    | dct hq ha =>
      cases r
      obtain ⟨_, hsys, vs, rel, o, es, ep, ho, hx, hd, _, pr, _⟩ := dk_rd I.hok (rdo_rd hq)
      obtain ⟨s1, s2⟩ := PyData.showableKv_split ds (by simpa [PyData.showable] using hs)
      have hz' : (dictText (PyData.shownKv ds)).length ≤ sizeLine := by simpa only [PyData.shown] using hz
      obtain ⟨A, B⟩ := DrK.shows I ds _ vs es.toList ha rel pr s1 s2 (fun t ht => let ⟨p, hp, hl⟩ := PyData.shownKv_key_le ds t ht; Nat.le_trans hl (Nat.le_trans (dictText_mem_le hp) hz'))
        (fun t ht => let ⟨p, hp, hl⟩ := PyData.shownKv_val_le ds t ht; Nat.le_trans hl (Nat.le_trans (dictText_mem_le hp) hz'))
      exact shows_dict ho hx.1 hd hsys A B
theorem DrA.shows (I : Inv X pins σ H s) : ∀ (ds : List PyData) (vs : List V) (us : List Value), DrA H vs ds → Vals vs us → PyData.showableAll ds = true → (∀ t ∈ PyData.shownAll ds, t.length ≤ sizeLine) → ShowsA X.prog X.w s.heap us ds
  | [], _, _, h, r, _, _ => by
    cases h; cases r
    exact shows_nil
  | d :: ds, _, _, h, r, hs, hz => by
    have hs' : d.showable = true ∧ PyData.showableAll ds = true := by simpa [PyData.showableAll] using hs
    cases h with
    | cons h1 h2 =>
      cases r with
      | cons r1 r2 =>
        exact ShowsA.cons (Dr.shows I d _ _ h1 r1 hs'.1 (hz _ (by simp only [PyData.shownAll]; exact List.mem_cons_self ..))) (DrA.shows I ds _ _ h2 r2 hs'.2 fun t ht => hz t (by simp only [PyData.shownAll]; exact List.mem_cons_of_mem _ ht))
theorem DrK.shows (I : Inv X pins σ H s) : ∀ (ds : List (PyData × PyData)) (kvs : List (Key × V)) (vs : List (Key × Value)) (es : List DictEntry), DrK H kvs ds → KV kvs vs → Pairs (mixKind X.prog X.w) es vs →
    PyData.showableAll (ds.map (·.1)) = true → PyData.showableAll (ds.map (·.2)) = true → (∀ t ∈ PyData.shownAll (ds.map (·.1)), t.length ≤ sizeLine) → (∀ t ∈ PyData.shownAll (ds.map (·.2)), t.length ≤ sizeLine) →
    ShowsA X.prog X.w s.heap (es.map (·.key)) (ds.map (·.1)) ∧ ShowsA X.prog X.w s.heap (es.map (·.val)) (ds.map (·.2))
  | [], _, _, _, h, r, p, _, _, _, _ => by
    cases h; cases r; cases p
    exact ⟨shows_nil, shows_nil⟩
  | (dk, d) :: ds, _, _, _, h, r, p, hs1, hs2, hz1, hz2 => by
    cases h with
    | @cons k _ _ _ _ h1 h2 =>
      cases r with
      | cons r1 r2 =>
        cases p with
        | cons p1 p2 p3 =>
          obtain ⟨ek, rv⟩ := r1
          have t1 : (keyD k).showable = true ∧ PyData.showableAll (ds.map (·.1)) = true := by simpa [PyData.showableAll] using hs1
          have t2 : d.showable = true ∧ PyData.showableAll (ds.map (·.2)) = true := by simpa [PyData.showableAll] using hs2
          obtain ⟨A, B⟩ := DrK.shows I ds _ _ _ h2 r2 p3 t1.2 t2.2 (fun t ht => hz1 t (by simp only [List.map_cons, PyData.shownAll]; exact List.mem_cons_of_mem _ ht)) (fun t ht => hz2 t (by simp only [List.map_cons, PyData.shownAll]; exact List.mem_cons_of_mem _ ht))
          refine ⟨ShowsA.cons ?_ A, ShowsA.cons ?_ B⟩
          · have q := p1
            rw [← ek] at q
            exact ⟨⟨_, keyD_reads q⟩, [], (fun _ z => nomatch z), keyD_repr q t1.1 (hz1 _ (by simp only [List.map_cons, PyData.shownAll]; exact List.mem_cons_self ..)) _⟩
          · dsimp only
            rw [p2]
            exact Dr.shows I d _ _ h1 rv t2.1 (hz2 _ (by simp only [List.map_cons, PyData.shownAll]; exact List.mem_cons_self ..))
end
def rRepr : List V → Hp → VK → Prop := fun xs H Q => ∃ v d, xs = [v] ∧ Dr H v d ∧ d.showable = true ∧ d.shown.length ≤ sizeLine ∧ d.depth ≤ 60 ∧ Q (.str d.shown) H
end
section
variable {X : Cx}
theorem call_repr_n {B : Around} {pins : List (Addr × Obj)} {σ : St} {H : Hp} {s : Shared} {Q : VK} {u : Value} {d : PyData} {T idr : String} {E : Value → Shared → Prop} (I : Inv X pins σ H s) (hu : B.units + 1 < cLine) (hT : s.TypeIs u T) (sl : SlotG T "__repr__" idr)
    (q : Q (.str d.shown) H) (hc : ∀ R : Value → Shared → Prop, (∀ h' t tk, (∀ b o, s.heap.get? b = some o → h'.get? b = some o) → R (.str d.shown t) { s with heap := h', toks := tk }) → wpAny (model X.prog X.w) B.in1 (call (.builtin idr) [u]) R E s) :
    wpAny (model X.prog X.w) B (call (.builtin "repr") [u]) (EP X pins σ Q) E s :=
  call_repr_slot hu hT sl (hc _ fun h' t tk hk => ⟨_, _, rfl, .str d.shown, H, I.un (Un.kept hk) (I.hok.kept hk), ⟨_, rfl⟩, q⟩)
/-- repr of data -/
theorem call_repr (hG : X.A.guards = some []) (hu : X.A.units + 100 < cLine) : CallR X (.builtin "repr") rRepr := by
  intro pins s σ H xs us Q I r h
  obtain ⟨v, d, rfl, hd, hs, hz, hdep, q⟩ := h
  obtain ⟨u, rfl, ru⟩ := vals1 r
  cases hd with
  | non =>
    cases ru
    exact P.repr_of_none (by simp only [PyData.shown] at q; exact ⟨.str _, H, I.tok _, ⟨_, rfl⟩, q⟩)
  | bl b =>
    cases ru
    exact P.repr_of_bool (by simp only [PyData.shown] at q; exact ⟨.str _, H, I.tok _, ⟨_, rfl⟩, q⟩)
  | int i =>
    obtain ⟨t, rfl⟩ := ru
    exact P.repr_of_int (by simpa [PyData.showable] using hs) (by simp only [PyData.shown] at q; exact ⟨.str _, H, I.tok _, ⟨_, rfl⟩, q⟩)
  | str x =>
    obtain ⟨t, rfl⟩ := ru
    exact P.repr_of_str (by simp only [PyData.shown] at q; exact ⟨.str _, H, I.tok _, ⟨_, rfl⟩, q⟩) (by simpa only [PyData.shown] using hz)
  | @lst a zs ds hq ha =>
    cases ru
    obtain ⟨its, rv, ⟨o, n, ho, hc, _, hd⟩, _⟩ := I.list (rdo_l hq)
    have hz' : (listText (PyData.shownAll ds)).length ≤ sizeLine := by simpa only [PyData.shown] using hz
    simp only [PyData.depth] at hdep
    obtain ⟨⟨as, rr⟩, bs, c, k⟩ := DrA.shows I ds _ its ha rv (by simpa [PyData.showable] using hs) fun t ht => Nat.le_trans (listText_mem_le ht) hz'
    have na : a ∉ bs := not_mem_of_deeper (Reads.list ho hc hd rr) (by simp only [PyData.depth]; omega) c
    refine call_repr_n I (by omega) ⟨o, ho, hc⟩ F.slot_list_repr.toG q fun R hR => ?_
    simp only [PyData.shown] at hR
    cases its with
    | nil =>
      cases rr
      simp only [PyData.shownAll, listText_nil] at hR
      exact call_list_repr_empty ⟨o, ho, hc⟩ ho hd (hR s.heap _ _ fun _ _ e => e)
    | cons y l => exact call_list_reprK ho hc hd na (by simpa using k.length_eq) (fun i y e => k.item i y (by simpa using e)) (show X.A.in1.guards = some [] from hG) (fun b _ => Clear.nil b) (by show X.A.units + 1 + _ < _; omega) (fun _ _ e => e) hR hz'
  | @tup a zs ds hq ha =>
    cases ru
    obtain ⟨its, rv, ⟨o, ho, hc, n, hd⟩, _⟩ := I.tuple (rdo_t hq)
    have hz' : (tupleText (PyData.shownAll ds)).length ≤ sizeLine := by simpa only [PyData.shown] using hz
    simp only [PyData.depth] at hdep
    obtain ⟨⟨as, rr⟩, bs, c, k⟩ := DrA.shows I ds _ its ha rv (by simpa [PyData.showable] using hs) fun t ht => Nat.le_trans (tupleText_mem_le ht) hz'
    have na : a ∉ bs := not_mem_of_deeper (Reads.tuple ho hc hd rr) (by simp only [PyData.depth]; omega) c
    refine call_repr_n I (by omega) ⟨o, ho, hc⟩ F.slot_tuple_repr q fun R hR => ?_
    simp only [PyData.shown] at hR
    exact call_tuple_reprK ho hc hd na k (show X.A.in1.guards = some [] from hG) (fun b _ => Clear.nil b) (by show X.A.units + 1 + _ < _; omega) (fun _ _ e => e) hR hz'
  | @dct a kvs ds hq ha =>
    cases ru
    obtain ⟨_, hsys, vs, rel, o, es, ep, ho, hx, hd, _, pr, _⟩ := dk_rd I.hok (rdo_rd hq)
    obtain ⟨s1, s2⟩ := PyData.showableKv_split ds (by simpa [PyData.showable] using hs)
    have hz' : (dictText (PyData.shownKv ds)).length ≤ sizeLine := by simpa only [PyData.shown] using hz
    simp only [PyData.depth] at hdep
    obtain ⟨⟨⟨as, ra⟩, b1, c1, k1⟩, ⟨bs, rb⟩, b2, c2, k2⟩ := DrK.shows I ds _ vs es.toList ha rel pr s1 s2 (fun t ht => let ⟨p, hp, hl⟩ := PyData.shownKv_key_le ds t ht; Nat.le_trans hl (Nat.le_trans (dictText_mem_le hp) hz'))
      (fun t ht => let ⟨p, hp, hl⟩ := PyData.shownKv_val_le ds t ht; Nat.le_trans hl (Nat.le_trans (dictText_mem_le hp) hz'))
    have c : ReadAtMost s.heap (PyData.depthKv ds) (b1 ++ b2) := (c1.mono (PyData.depthAll_keys_le ds)).append (c2.mono (PyData.depthAll_vals_le ds))
    have na : a ∉ b1 ++ b2 := not_mem_of_deeper (Reads.dict ho hx.1 hd ra rb) (by simp only [PyData.depth]; omega) c
    refine call_repr_n I (by omega) ⟨o, ho, hx.1⟩ F.slot_dict_repr q fun R hR => ?_
    simp only [PyData.shown, PyData.shownKv_eq] at hR
    exact call_dict_reprK ho hx.1 hd hsys na (ReprEntriesK.of_two es.toList _ _
      (k1.more_le (fun b hb => List.mem_append_left _ hb) (PyData.depthAll_keys_le ds)) (k2.more_le (fun b hb => List.mem_append_right _ hb) (PyData.depthAll_vals_le ds)))
      (show X.A.in1.guards = some [] from hG) (fun b _ => Clear.nil b) (by show X.A.units + 1 + _ < _; omega) (fun _ _ e => e) hR (by rw [← PyData.shownKv_eq]; exact hz')
end
end Rm
/-! Rm, part C: operations by cases over the values (readings that compute). -/
namespace Rm
open PySem PySem.Spec L2
open PyProof.Rows hiding St
def keyOf : V → Option Key
  | .int i => some (.inl i)
  | .str x => some (.inr x)
  | _ => none
theorem keyOf_kV {y : V} {k : Key} (h : keyOf y = some k) : y = kV k := by
  cases y <;> simp [keyOf] at h <;> subst h <;> rfl
section
variable {X : Cx}
/-! ### arithmetic -/
def rAdd : R2 := fun x y H Q => match x, y with
  | .int i, .int j => Q (.int (i + j)) H
  | .int i, .bl k => Q (.int (i + b2i k)) H
  | .str i, .str j => i.length + j.length ≤ sizeLine ∧ Q (.str (i ++ j)) H
  | .ref a, .ref b => (match H a, H b with
    | some (.lst xs), some (.lst ys) => xs.length + ys.length ≤ sizeLine ∧ ∀ p, H p = none → Q (.ref p) (upd H p (.lst (xs ++ ys)))
    | some (.tup xs), some (.tup ys) => xs.length + ys.length ≤ sizeLine ∧ (xs = [] → Q (.ref b) H) ∧ (xs ≠ [] → ys = [] → Q (.ref a) H) ∧ (xs ≠ [] → ys ≠ [] → ∀ p, H p = none → Q (.ref p) (upd H p (.tup (xs ++ ys))))
    | _, _ => False)
  | _, _ => False
theorem opAdd : OpR X (binaryOp .Add) rAdd := by
  intro pins s σ H x y v u Q I rx ry h
  unfold rAdd at h
  split at h
  · exact op_add pins s σ H _ _ v u Q I rx ry ⟨_, _, rfl, rfl, h⟩
  · exact op_add_ib pins s σ H _ _ v u Q I rx ry ⟨_, _, rfl, rfl, h⟩
  · exact op_add_str pins s σ H _ _ v u Q I rx ry ⟨_, _, rfl, rfl, h.1, h.2⟩
  · split at h
    · rename_i e1 e2
      exact op_cat pins s σ H _ _ v u Q I rx ry ⟨_, _, _, _, rfl, rfl, e1, e2, h.1, h.2⟩
    · rename_i e1 e2
      exact op_catA pins s σ H _ _ v u Q I rx ry ⟨_, _, _, _, rfl, rfl, SqT.of e1, SqT.of e2, h.1, h.2.1, h.2.2.1, h.2.2.2⟩
    · exact h.elim
  · exact h.elim
def rSub : R2 := fun x y H Q => match x, y with
  | .int i, .int j => Q (.int (i - j)) H
  | _, _ => False
theorem opSub : OpR X (binaryOp .Sub) rSub := by
  intro pins s σ H x y v u Q I rx ry h
  unfold rSub at h
  split at h
  · exact op_sub pins s σ H _ _ v u Q I rx ry ⟨_, _, rfl, rfl, h⟩
  · exact h.elim
/-- * : the factors together below a million bits are always right -/
def rMul : R2 := fun x y H Q => match x, y with
  | .int i, .int j => IntMulOk i j ∧ Q (.int (i * j)) H
  | .str z, .int k => (k = 0 ∨ k = 1) ∧ Q (.str (if k = 1 then z else Str.empty)) H
  | .ref l, .int k => (match H l with
    | some (.lst xs) => (-(2 ^ 63) ≤ k ∧ k < 2 ^ 63 ∧ xs.length * k.toNat ≤ sizeLine) ∧ ∀ p, H p = none → Q (.ref p) (upd H p (.lst (List.replicate k.toNat xs).flatten))
    | _ => False)
  | _, _ => False
theorem opMul : OpR X (binaryOp .Mult) rMul := by
  intro pins s σ H x y v u Q I rx ry h
  unfold rMul at h
  split at h
  · rename_i i j
    obtain ⟨t, rfl⟩ := rx
    obtain ⟨t', rfl⟩ := ry
    exact mul_int ⟨.int _, H, I.tok _, ⟨_, rfl⟩, h.2⟩ h.1
  · rename_i z k
    obtain ⟨t, rfl⟩ := rx
    obtain ⟨t', rfl⟩ := ry
    rcases h.1 with rfl | rfl
    · exact P.mul_str_none (by decide) (by decide) ⟨.str _, H, I.tok _, ⟨_, rfl⟩, h.2⟩
    · refine P.mul_str (by decide) (fun _ e => by cases e) (fun _ e => by cases e) ?_
      rw [if_neg (by decide), if_pos (by rfl)]
      exact ⟨.str _, H, I, ⟨_, rfl⟩, h.2⟩
  · split at h
    · rename_i e
      exact op_rep pins s σ H _ _ v u Q I rx ry ⟨_, _, _, rfl, rfl, e, h.1.1, h.1.2.1, h.1.2.2, h.2⟩
    · exact h.elim
  · exact h.elim
def rDiv : R2 := fun x y H Q => match x, y with
  | .int i, .int j => (0 < j ∧ j.natAbs < 1073741824) ∧ Q (.int (i / j)) H
  | _, _ => False
theorem opDiv : OpR X (binaryOp .FloorDiv) rDiv := by
  intro pins s σ H x y v u Q I rx ry h
  unfold rDiv at h
  split at h
  · rename_i i j
    refine op_fdivN pins s σ H _ _ v u Q I rx ry ⟨_, _, rfl, rfl, ⟨by omega, h.1.2⟩, ?_⟩
    show Q (.int (i.fdiv j)) H
    rw [Int.fdiv_eq_ediv_of_nonneg i (show 0 ≤ j by omega)]
    exact h.2
  · exact h.elim
def rMod : R2 := fun x y H Q => match x, y with
  | .int i, .int j => 0 < j ∧ Q (.int (i % j)) H
  | _, _ => False
theorem opMod : OpR X (binaryOp .Mod) rMod := by
  intro pins s σ H x y v u Q I rx ry h
  unfold rMod at h
  split at h
  · exact op_mod pins s σ H _ _ v u Q I rx ry ⟨_, _, rfl, rfl, h.1, h.2⟩
  · exact h.elim
def rPow : R2 := fun x y H Q => match x, y with
  | .int i, .int j => (0 ≤ j ∧ (Builtin.Int.intBits i : Int) * j ≤ 2 ^ 27) ∧ Q (.int (i ^ j.toNat)) H
  | _, _ => False
theorem opPow : OpR X (binaryOp .Pow) rPow := by
  intro pins s σ H x y v u Q I rx ry h
  unfold rPow at h
  split at h
  · obtain ⟨t, rfl⟩ := rx
    obtain ⟨t', rfl⟩ := ry
    exact pow_int h.1.1 h.1.2 ⟨.int _, H, I.tok _, ⟨_, rfl⟩, h.2⟩
  · exact h.elim
def rNeg : V → Hp → VK → Prop := fun x H Q => match x with
  | .int i => Q (.int (-i)) H
  | _ => False
theorem unNeg : UnR X (unaryOp .USub) rNeg := by
  intro pins s σ H x v Q I rx h
  unfold rNeg at h
  split at h
  · exact un_neg pins s σ H _ v Q I rx ⟨_, rfl, h⟩
  · exact h.elim
/-! ### comparisons -/
def rLt : R2 := fun x y H Q => match x, y with
  | .int i, .int j => Q (.bl (decide (i < j))) H
  | _, _ => False
def rLe : R2 := fun x y H Q => match x, y with
  | .int i, .int j => Q (.bl (decide (i ≤ j))) H
  | .str i, .str j => Q (.bl (!decide (j.cps.toList < i.cps.toList))) H
  | _, _ => False
def rGt : R2 := fun x y H Q => match x, y with
  | .int i, .int j => Q (.bl (decide (j < i))) H
  | _, _ => False
def rGe : R2 := fun x y H Q => match x, y with
  | .int i, .int j => Q (.bl (decide (j ≤ i))) H
  | _, _ => False
theorem opLt : OpR X (compareOp .Lt) rLt := by
  intro pins s σ H x y v u Q I rx ry h
  unfold rLt at h
  split at h
  · exact op_lt pins s σ H _ _ v u Q I rx ry ⟨_, _, rfl, rfl, h⟩
  · exact h.elim
theorem opLe : OpR X (compareOp .LtE) rLe := by
  intro pins s σ H x y v u Q I rx ry h
  unfold rLe at h
  split at h
  · exact op_le pins s σ H _ _ v u Q I rx ry ⟨_, _, rfl, rfl, h⟩
  · exact op_le_str pins s σ H _ _ v u Q I rx ry ⟨_, _, rfl, rfl, h⟩
  · exact h.elim
theorem opGt : OpR X (compareOp .Gt) rGt := by
  intro pins s σ H x y v u Q I rx ry h
  unfold rGt at h
  split at h
  · exact op_gt pins s σ H _ _ v u Q I rx ry ⟨_, _, rfl, rfl, h⟩
  · exact h.elim
theorem opGe : OpR X (compareOp .GtE) rGe := by
  intro pins s σ H x y v u Q I rx ry h
  unfold rGe at h
  split at h
  · exact op_ge pins s σ H _ _ v u Q I rx ry ⟨_, _, rfl, rfl, h⟩
  · exact h.elim
/-- a list, a tuple or a dict stands at a -/
def isCol (o : Option HO) : Bool := match o with
  | some (.lst _) | some (.tup _) | some (.dK _) => true
  | _ => false
theorem dict_eq_declines_str (l : Addr) (es : Array DictEntry) (n : Nat) (b : Str) (u : Tok) :
    Meets (Builtin.«dict.__eq__» ⟨[.ref l, .str b u], []⟩) (fun _ R s => s.heap.get? l = some { cls := .type "dict", data := .dict es n } ∧ R (.ok (.ret .notImplemented)) s) :=
  .of_wp fun prog w A R s h => by obtain ⟨hp, g, d, tk, os⟩ := s; obtain ⟨hl, h⟩ := h; have f1 := F.sub_str_dict; wp_walk using AutoSeq1.wpAny_loadPart' hl; exact ⟨_, rfl, h⟩
theorem str_eq_declines_dict (b : Str) (u : Tok) (l : Addr) (es : Array DictEntry) (n : Nat) :
    Meets (Builtin.«str.__eq__» ⟨[.str b u, .ref l], []⟩) (fun _ R s => s.heap.get? l = some { cls := .type "dict", data := .dict es n } ∧ R (.ok (.ret .notImplemented)) s) :=
  .of_wp fun prog w A R s h => by obtain ⟨hp, g, d, tk, os⟩ := s; obtain ⟨hl, h⟩ := h; wp_walk using AutoSeq1.wpAny_loadPart' hl, wpAny_load hl; exact ⟨_, rfl, h⟩
theorem rc_dict_str {A : Around} {s : Shared} {l : Addr} {es : Array DictEntry} {n : Nat} (b : Str) (u : Tok) (ho : s.heap.get? l = some { cls := .type "dict", data := .dict es n }) (hu : A.units < cLine) : SeqAt.RcAt A s (.ref l) (.str b u) false := fun prog w E Q h =>
  SeqAt.rc_eq_decline_or (k := false) ⟨_, ho, rfl⟩ (typeIs_str s b u) (by decide) F.sub_str_dict F.slot_dict_eq F.slot_str_eq_refl
    (fun _ hq => call_meets F.slot_dict_eq ⟨_, ho, rfl⟩ F.entry_dict_eq (F.args_dict_eq_2 _ _) (dict_eq_declines_str l es n b u) ⟨ho, hq⟩)
    (fun _ hq => call_meets F.slot_str_eq_refl (typeIs_str s b u) F.entry_str_eq (F.args_str_eq_2 _ _) (str_eq_declines_dict b u l es n) ⟨ho, hq⟩)
    (fun _ hq => wpAny_of_eq (rfl : isSame (.ref l) (.str b u) = pure false) hq) (.inr hu) h
theorem rc_col_str {H : Hp} {pins : List (Addr × Obj)} {σ : St} {s : Shared} {l : Addr} (b : Str) (u : Tok) (I : Inv X pins σ H s) (h : isCol (rdo H l) = true) (hu : X.A.units < cLine) : SeqAt.RcAt X.A s (.ref l) (.str b u) false := by
  unfold isCol at h
  split at h
  · rename_i e
    obtain ⟨its, r, pl, _⟩ := I.list (rdo_l e)
    exact SeqAt.RcAt.list_str b u pl.isList hu
  · rename_i e
    obtain ⟨its, r, pl, _⟩ := I.tuple (rdo_t e)
    exact SeqAt.RcAt.tuple_str b u pl hu
  · rename_i e
    obtain ⟨_, _, vs, _, o, es, ep, ho, hx, hd, _⟩ := dk_rd I.hok (rdo_rd e)
    obtain ⟨oc, od, dt, sl⟩ := o
    obtain ⟨h1, h2, h3⟩ := hx
    simp only at h1 h2 h3 hd
    subst h1 h2 h3 hd
    exact rc_dict_str b u ho hu
  · cases h
mutual
theorem Dr.dp {K : PySem.W.Frag} {H : Hp} : ∀ (d : PyData) (v : V), Dr H v d → d.canLay0 = true → Dp K H v d
  | .none, _, h, _ => by cases h; exact .non
  | .bool b, _, h, _ => by cases h; exact .bl b
  | .int i, _, h, _ => by cases h; exact .int i
  | .str x, _, h, _ => by cases h; exact .str x
  | .list ds, _, h, hc => by
    cases h with
    | lst e a => exact .lst (rdo_l e) (DrA.dp ds _ a (by simpa [PyData.canLay0] using hc))
  | .tuple ds, _, h, hc => by
    cases h with
    | tup e a => exact .tup (rdo_t e) (DrA.dp ds _ a (by simpa [PyData.canLay0] using hc))
  | .dict _, _, _, hc => by simp [PyData.canLay0] at hc
theorem DrA.dp {K : PySem.W.Frag} {H : Hp} : ∀ (ds : List PyData) (vs : List V), DrA H vs ds → PyData.canLayAll0 ds = true → DpAll K H vs ds
  | [], _, h, _ => by cases h; exact .nil
  | d :: ds, _, h, hc => by
    cases h with
    | cons a b =>
      have hc' : d.canLay0 = true ∧ PyData.canLayAll0 ds = true := by simpa [PyData.canLayAll0] using hc
      exact .cons (Dr.dp d _ a hc'.1) (DrA.dp ds _ b hc'.2)
end
def isSeq (o : Option HO) : Bool := match o with
  | some (.lst _) | some (.tup _) => true
  | _ => false
/-- == of values of unlike kinds, or with an empty list or tuple -/
def eqR (H : Hp) (x y : V) : Option Bool := match x, y with
  | .ref a, .ref b => (match rdo H a, rdo H b with
    | some (.tup xs), some (.tup []) => some xs.isEmpty
    | some (.lst xs), some (.lst []) => some xs.isEmpty
    | some (.lst _), some (.tup _) => some false
    | some (.tup _), some (.lst _) => some false
    | _, _ => none)
  | .ref a, .str _ => if isCol (rdo H a) = true then some false else none
  | .ref a, .int _ => if isSeq (rdo H a) = true then some false else none
  | .ref a, .bl _ => if isSeq (rdo H a) = true then some false else none
  | .ref a, .non => if isSeq (rdo H a) = true then some false else none
  | .str _, .ref a => if isSeq (rdo H a) = true then some false else none
  | .int _, .ref a => if isSeq (rdo H a) = true then some false else none
  | .bl _, .ref a => if isSeq (rdo H a) = true then some false else none
  | .non, .ref a => if isSeq (rdo H a) = true then some false else none
  | _, _ => none
theorem isSeq_at {H : Hp} {pins : List (Addr × Obj)} {σ : St} {s : Shared} {a : Addr} (I : Inv X pins σ H s) (h : isSeq (rdo H a) = true) : (∃ its : List Value, s.heap.IsList a its.toArray) ∨ ∃ its : List Value, s.heap.IsTuple a its.toArray := by
  unfold isSeq at h
  split at h
  · rename_i e
    obtain ⟨its, r, pl, _⟩ := I.list (rdo_l e)
    exact Or.inl ⟨its, pl.isList⟩
  · rename_i e
    obtain ⟨its, r, pl, _⟩ := I.tuple (rdo_t e)
    exact Or.inr ⟨its, pl⟩
  · cases h
theorem eqR_ok {H : Hp} {pins : List (Addr × Obj)} {σ : St} {s : Shared} {x y : V} {v u : Value} {k : Bool} (hu : X.A.units < cLine) (I : Inv X pins σ H s) (rx : RelV x v) (ry : RelV y u) (h : eqR H x y = some k) : SeqAt.RcAt X.A s v u k := by
  unfold eqR at h
  split at h
  · rename_i a b
    obtain rfl := (show v = Value.ref a from rx)
    obtain rfl := (show u = Value.ref b from ry)
    split at h
    · rename_i xs e1 e2
      injection h with h
      subst h
      obtain ⟨its, r, pl, _⟩ := I.tuple (rdo_t e1)
      obtain ⟨its2, r2, pl2, _⟩ := I.tuple (rdo_t e2)
      cases r2
      have q := SeqAt.RcAt.tuples (A := X.A) (e := fun _ => true) pl pl2 hu (fun j h1 h2 => by simp at h2)
      have : ((List.range (min its.toArray.size ([] : List Value).toArray.size)).all (fun _ => true) && its.toArray.size == ([] : List Value).toArray.size) = xs.isEmpty := by
        have l := r.length
        cases xs <;> cases its <;> simp_all
      rw [this] at q
      exact q
    · rename_i xs e1 e2
      injection h with h
      subst h
      obtain ⟨its, r, pl, _⟩ := I.list (rdo_l e1)
      obtain ⟨its2, r2, pl2, _⟩ := I.list (rdo_l e2)
      cases r2
      cases r with
      | nil =>
        have q := SeqAt.RcAt.lists (A := X.A) (e := fun _ => true) pl.isList pl2.isList rfl hu (fun j h1 h2 => by simp at h2)
        exact q
      | cons _ _ => exact SeqAt.RcAt.lists_lengths pl.isList pl2.isList (by simp) hu
    · rename_i e1 e2
      injection h with h
      subst h
      obtain ⟨its, r, pl, _⟩ := I.list (rdo_l e1)
      obtain ⟨its2, r2, pl2, _⟩ := I.tuple (rdo_t e2)
      exact SeqAt.RcAt.list_tuple pl.isList pl2 hu
    · rename_i e1 e2
      injection h with h
      subst h
      obtain ⟨its, r, pl, _⟩ := I.tuple (rdo_t e1)
      obtain ⟨its2, r2, pl2, _⟩ := I.list (rdo_l e2)
      exact SeqAt.RcAt.tuple_list pl pl2.isList hu
    · cases h
  all_goals first
    | (cases h; done)
    | (split at h
       · rename_i e
         injection h with h
         subst h
         first
           | (obtain rfl := (show v = Value.ref _ from rx)
              obtain ⟨t, rfl⟩ := ry
              exact rc_col_str _ _ I e hu)
           | (obtain rfl := (show v = Value.ref _ from rx)
              rcases isSeq_at I e with ⟨its, pl⟩ | ⟨its, pl⟩ <;> first
                | (obtain ⟨t, rfl⟩ := ry; first | exact SeqAt.RcAt.list_int _ _ pl hu | exact SeqAt.RcAt.tuple_int _ _ pl hu)
                | (obtain rfl := (show u = Value.bool _ from ry); first | exact SeqAt.RcAt.list_bool _ pl hu | exact SeqAt.RcAt.tuple_bool _ pl hu)
                | (obtain rfl := (show u = Value.none from ry); first | exact SeqAt.RcAt.list_none pl hu | exact SeqAt.RcAt.tuple_none pl hu))
           | (obtain rfl := (show u = Value.ref _ from ry)
              rcases isSeq_at I e with ⟨its, pl⟩ | ⟨its, pl⟩ <;> first
                | (obtain ⟨t, rfl⟩ := rx; first | exact SeqAt.RcAt.int_list _ _ pl hu | exact SeqAt.RcAt.int_tuple _ _ pl hu | exact SeqAt.RcAt.str_list _ _ pl hu | exact SeqAt.RcAt.str_tuple _ _ pl hu)
                | (obtain rfl := (show v = Value.bool _ from rx); first | exact SeqAt.RcAt.bool_list _ pl hu | exact SeqAt.RcAt.bool_tuple _ pl hu)
                | (obtain rfl := (show v = Value.none from rx); first | exact SeqAt.RcAt.none_list pl hu | exact SeqAt.RcAt.none_tuple pl hu))
       · cases h)
/-- == : plain values; unlike kinds; data without dicts -/
def rEqU : R2 := fun x y H Q =>
  if scal x y = true then Q (.bl (decide (x = y))) H else
  match eqR H x y with
  | some k => Q (.bl k) H
  | none => ∃ d e, Dr H x d ∧ Dr H y e ∧ SeqAt.shaped d = true ∧ SeqAt.shaped e = true ∧ Q (.bl (PyData.eqv d e)) H
theorem opEq (hu : X.A.units + 64 < cLine) : OpR X (compareOp .Eq) rEqU := by
  intro pins s σ H x y v u Q I rx ry h
  unfold rEqU at h
  split at h
  · rename_i e
    exact op_eq pins s σ H _ _ v u Q I rx ry ⟨e, h⟩
  · split at h
    · rename_i k e
      exact eqR_ok (by omega) I rx ry e X.prog X.w X.xe _ ⟨.bl k, H, I, rfl, h⟩
    · obtain ⟨d, e, hd, he, sd, se, q⟩ := h
      exact op_eqD hu pins s σ H _ _ v u Q I rx ry ⟨d, e, Dr.dp _ _ hd (SeqAt.canLay_of_shaped sd), Dr.dp _ _ he (SeqAt.canLay_of_shaped se), sd, se, q⟩
/-- != -/
def rNeU : R2 := fun x y H Q => if scal x y = true then Q (.bl (!decide (x = y))) H else ∃ d e, Dr H x d ∧ Dr H y e ∧ SeqAt.shaped d = true ∧ SeqAt.shaped e = true ∧ Q (.bl (!PyData.eqv d e)) H
theorem opNe (hu : X.A.units + 64 < cLine) : OpR X (compareOp .NotEq) rNeU := by
  intro pins s σ H x y v u Q I rx ry h
  unfold rNeU at h
  split at h
  · rename_i e
    exact op_ne pins s σ H _ _ v u Q I rx ry ⟨e, h⟩
  · obtain ⟨d, e, hd, he, sd, se, q⟩ := h
    exact op_neD hu pins s σ H _ _ v u Q I rx ry ⟨d, e, Dr.dp _ _ hd (SeqAt.canLay_of_shaped sd), Dr.dp _ _ he (SeqAt.canLay_of_shaped se), sd, se, q⟩
/-- is, is not: of None, of bools -/
def rIs : R2 := fun x y H Q => match x, y with
  | .bl a, .bl b => Q (.bl (decide (a = b))) H
  | x, .non => Q (.bl (decide (x = .non))) H
  | _, _ => False
theorem opIs : OpR X (compareOp .Is) rIs := by
  intro pins s σ H x y v u Q I rx ry h
  unfold rIs at h
  split at h
  · exact op_is_bl pins s σ H _ _ v u Q I rx ry ⟨_, _, rfl, rfl, h⟩
  · exact op_isN pins s σ H _ _ v u Q I rx ry ⟨rfl, h⟩
  · exact h.elim
/-! ### in -/
def rMem (neg : Bool) : R2 := fun x y H Q => match y with
  | .ref a => (match rdo H a with
    | some (.lst ys) => (flatV x = true ∧ ys.all flatV = true) ∧ Q (.bl (if neg then !inV x ys else inV x ys)) H
    | some (.tup ys) => (flatV x = true ∧ ys.all flatV = true) ∧ Q (.bl (if neg then !inV x ys else inV x ys)) H
    | some (.dK kvs) => (match keyOf x with
      | some k => Q (.bl (if neg then !(valV kvs k).isSome else (valV kvs k).isSome)) H
      | none => False)
    | _ => False)
  | _ => False
theorem opIn (hu : X.A.units + 1 < cLine) : OpR X (compareOp .In) (rMem false) := by
  intro pins s σ H x y v u Q I rx ry h
  unfold rMem at h
  split at h
  · split at h
    · rename_i e
      exact op_in_seq pins s σ H _ _ v u Q I rx ry ⟨_, _, rfl, Or.inl (rdo_l e), h.1.1, h.1.2, h.2⟩
    · rename_i e
      exact op_in_seq pins s σ H _ _ v u Q I rx ry ⟨_, _, rfl, Or.inr (rdo_t e), h.1.1, h.1.2, h.2⟩
    · rename_i e
      split at h
      · rename_i k ek
        obtain rfl := (show u = Value.ref _ from ry)
        exact d_in hu I (Or.inl ⟨_, k, rdo_rd e, keyOf_kV ek, rfl⟩) rx fun s' I' => ⟨.bl _, H, I', rfl, h⟩
      · exact h.elim
    · exact h.elim
  · exact h.elim
theorem opNotIn (hu : X.A.units + 1 < cLine) : OpR X (compareOp .NotIn) (rMem true) := by
  intro pins s σ H x y v u Q I rx ry h
  unfold rMem at h
  split at h
  · split at h
    · rename_i e
      exact op_notIn_seq pins s σ H _ _ v u Q I rx ry ⟨_, _, rfl, Or.inl (rdo_l e), h.1.1, h.1.2, h.2⟩
    · rename_i e
      exact op_notIn_seq pins s σ H _ _ v u Q I rx ry ⟨_, _, rfl, Or.inr (rdo_t e), h.1.1, h.1.2, h.2⟩
    · rename_i e
      split at h
      · rename_i k ek
        obtain rfl := (show u = Value.ref _ from ry)
        exact d_notIn hu I (Or.inl ⟨_, k, rdo_rd e, keyOf_kV ek, rfl⟩) rx fun s' I' => ⟨.bl _, H, I', rfl, h⟩
      · exact h.elim
    · exact h.elim
  · exact h.elim
/-- the keys that a tuple of keys is made of -/
def keysOf : List V → Option (List Key)
  | [] => some []
  | y :: ys => match keyOf y, keysOf ys with
    | some k, some ks => some (k :: ks)
    | _, _ => none
theorem keysOf_kV : ∀ {ys : List V} {ks : List Key}, keysOf ys = some ks → ys = ks.map kV
  | [], _, e => by cases e; rfl
  | y :: ys, _, e => by
    unfold keysOf at e
    split at e
    · rename_i k ks e1 e2
      cases e
      rw [List.map_cons, ← keysOf_kV e2, keyOf_kV e1]
    · cases e
/-! ### subscripts -/
def rItem : R2 := fun x y H Q => match x with
  | .ref a => (match rdo H a with
    | some (.lst xs) => (match y with
      | .int i => (match atI xs i with
        | some v => Q v H
        | none => False)
      | _ => False)
    | some (.tup xs) => (match y with
      | .int i => (match atI xs i with
        | some v => Q v H
        | none => False)
      | _ => False)
    | some (.dK kvs) => (match keyOf y with
      | some k => (match valV kvs k with
        | some v => Q v H
        | none => False)
      | none => False)
    | some (.dT kvs) => (match y with
      | .ref b => (match H b with
        | some (.tup ys) => (match keysOf ys with
          | some k => (match valV kvs k with
            | some v => Q v H
            | none => False)
          | none => False)
        | _ => False)
      | _ => False)
    | _ => False)
  | .str z => (match y with
    | .int i => z.length ≤ sizeLine ∧ (match atI z.cps.toList i with
      | some c => Q (.str ⟨#[c]⟩) H
      | none => False)
    | _ => False)
  | _ => False
theorem ixItem (hu : X.A.units + 1 < cLine) : IxR X rItem := by
  intro value slice pins s σ H x y v u Q I rx ry h hs
  unfold rItem at h
  split at h
  · split at h
    · rename_i e
      split at h
      · split at h
        · rename_i z ez
          exact ix_list value slice pins s σ H _ _ v u Q I rx ry ⟨_, _, _, z, rfl, rfl, rdo_l e, ez, h⟩ hs
        · exact h.elim
      · exact h.elim
    · rename_i e
      split at h
      · split at h
        · rename_i z ez
          exact ix_tup value slice pins s σ H _ _ v u Q I rx ry ⟨_, _, _, z, rfl, rfl, rdo_t e, ez, h⟩ hs
        · exact h.elim
      · exact h.elim
    · rename_i e
      split at h
      · rename_i k ek
        split at h
        · rename_i z ez
          obtain rfl := (show v = Value.ref _ from rx)
          have g : DGet H _ y (some z) := Or.inl ⟨_, k, rdo_rd e, keyOf_kV ek, ez.symm⟩
          exact PyProof.Rows.tail_any (dict_typeIs I g) PySem.F.slot_dict_getitem.lookup (d_getItem hu I g ry fun w' s' I' rw' => ⟨z, H, I', rw', h⟩) hs
        · exact h.elim
      · exact h.elim
    · rename_i e
      split at h
      · split at h
        · rename_i eb
          split at h
          · rename_i k ek
            split at h
            · rename_i z ez
              obtain rfl := (show v = Value.ref _ from rx)
              have g : DGet H _ _ (some z) := Or.inr ⟨_, k, _, rdo_rd e, rfl, by rw [eb, keysOf_kV ek], ez.symm⟩
              exact PyProof.Rows.tail_any (dict_typeIs I g) PySem.F.slot_dict_getitem.lookup (d_getItem hu I g ry fun w' s' I' rw' => ⟨z, H, I', rw', h⟩) hs
            · exact h.elim
          · exact h.elim
        · exact h.elim
      · exact h.elim
    · exact h.elim
  · split at h
    · obtain ⟨hz, h⟩ := h
      split at h
      · rename_i c ec
        exact ix_str value slice pins s σ H _ _ v u Q I rx ry ⟨_, _, c, rfl, rfl, hz, ec, h⟩ hs
      · exact h.elim
    · exact h.elim
  · exact h.elim
/-- o[i] = v -/
def rStore : TSet := fun o i v H Q => match o with
  | .ref a => (match H a with
    | some (.lst xs) => (match i with
      | .int k => (match ixN xs.length k with
        | some j => Q (upd H a (.lst (xs.set j v)))
        | none => False)
      | _ => False)
    | some (.dK kvs) => (match keyOf i with
      | some k => kvs.length < sizeLine ∧ Q (upd H a (.dK (putK kvs k v)))
      | none => False)
    | some (.dT kvs) => (match i with
      | .ref b => (match H b with
        | some (.tup ys) => (match keysOf ys with
          | some k => kvs.length < sizeLine ∧ Q (upd H a (.dT (putK kvs k v)))
          | none => False)
        | _ => False)
      | _ => False)
    | _ => False)
  | _ => False
theorem setStore (hu : X.A.units + 1 < cLine) : PSet X rStore := by
  intro pins s σ H o i v ov iv u Q I ro ri rv h
  unfold rStore at h
  split at h
  · split at h
    · rename_i e
      split at h
      · split at h
        · rename_i j ej
          exact set_list pins s σ H _ _ v ov iv u Q I ro ri rv ⟨_, _, _, j, rfl, rfl, e, ej, h⟩
        · exact h.elim
      · exact h.elim
    · rename_i e
      split at h
      · rename_i k ek
        obtain rfl := (show ov = Value.ref _ from ro)
        exact d_setItem hu I (Or.inl ⟨_, k, e, keyOf_kV ek, h.1, rfl⟩) ri rv fun s' I' => ⟨_, I', h.2⟩
      · exact h.elim
    · rename_i e
      split at h
      · split at h
        · rename_i eb
          split at h
          · rename_i k ek
            obtain rfl := (show ov = Value.ref _ from ro)
            exact d_setItem hu I (Or.inr ⟨_, k, _, e, rfl, by rw [eb, keysOf_kV ek], h.1, rfl⟩) ri rv fun s' I' => ⟨_, I', h.2⟩
          · exact h.elim
        · exact h.elim
      · exact h.elim
    · exact h.elim
  · exact h.elim
/-! ### built-in functions -/
def rLen : List V → Hp → VK → Prop := fun vs H Q => match vs with
  | [.ref a] => (match rdo H a with
    | some (.lst xs) => Q (.int xs.length) H
    | some (.tup xs) => Q (.int xs.length) H
    | some (.dK kvs) => Q (.int kvs.length) H
    | _ => False)
  | [.str z] => z.length ≤ sizeLine ∧ Q (.int z.length) H
  | _ => False
theorem callLen : CallR X (.builtin "len") rLen := by
  intro pins s σ H xs us Q I r h
  unfold rLen at h
  split at h
  · split at h
    · rename_i e
      exact call_len_seq pins s σ H _ us Q I r ⟨_, _, rfl, Or.inl (rdo_l e), h⟩
    · rename_i e
      exact call_len_seq pins s σ H _ us Q I r ⟨_, _, rfl, Or.inr (rdo_t e), h⟩
    · rename_i kvs e
      obtain ⟨u, rfl, ru⟩ := vals1 r
      cases ru
      exact d_len I (rdo_rd e) fun t s' I' => ⟨.int kvs.length, H, I', ⟨t, rfl⟩, h⟩
    · exact h.elim
  · exact call_len pins s σ H _ us Q I r ⟨_, _, rfl, ⟨h.1, rfl⟩, h.2⟩
  · exact h.elim
def rInt : List V → Hp → VK → Prop := fun vs H Q => match vs with
  | [.int i] => Q (.int i) H
  | [.bl k] => Q (.int (if k then 1 else 0)) H
  | _ => False
theorem callInt : CallR X (.type "int") rInt := by
  intro pins s σ H xs us Q I r h
  unfold rInt at h
  split at h
  · exact call_int1 pins s σ H _ us Q I r (Or.inl ⟨_, rfl, h⟩)
  · exact call_int1 pins s σ H _ us Q I r (Or.inr ⟨_, rfl, h⟩)
  · exact h.elim
def rMax : List V → Hp → VK → Prop := fun vs H Q => match vs with
  | [.int i, .int j] => Q (.int (if j > i then j else i)) H
  | _ => False
def rMin : List V → Hp → VK → Prop := fun vs H Q => match vs with
  | [.int i, .int j] => Q (.int (if j < i then j else i)) H
  | _ => False
theorem callMax (hc : X.calm = true) : CallR X (.builtin "max") rMax := by
  intro pins s σ H xs us Q I r h
  unfold rMax at h
  split at h
  · exact call_max2 hc pins s σ H _ us Q I r ⟨_, _, rfl, h⟩
  · exact h.elim
theorem callMin (hc : X.calm = true) : CallR X (.builtin "min") rMin := by
  intro pins s σ H xs us Q I r h
  unfold rMin at h
  split at h
  · exact call_min2 hc pins s σ H _ us Q I r ⟨_, _, rfl, h⟩
  · exact h.elim
def rTuple : List V → Hp → VK → Prop := fun vs H Q => match vs with
  | [.ref a] => (match rdo H a with
    | some (.lst xs) => ∀ p, H p = none → Q (.ref p) (upd H p (.tup xs))
    | some (.tup _) => Q (.ref a) H
    | _ => False)
  | _ => False
theorem callTuple : CallR X (.type "tuple") rTuple := by
  intro pins s σ H xs us Q I r h
  unfold rTuple at h
  split at h
  · split at h
    · rename_i e
      exact call_tuple_of pins s σ H _ us Q I r ⟨_, _, rfl, Or.inl ⟨rdo_l e, h⟩⟩
    · rename_i e
      exact call_tuple_of pins s σ H _ us Q I r ⟨_, _, rfl, Or.inr ⟨rdo_t e, h⟩⟩
    · exact h.elim
  · exact h.elim
def rAbs : List V → Hp → VK → Prop := fun vs H Q => match vs with
  | [.int i] => Q (.int (if i < 0 then -i else i)) H
  | _ => False
theorem callAbs : CallR X (.builtin "abs") rAbs := by
  intro pins s σ H xs us Q I r h
  unfold rAbs at h
  split at h
  · exact call_abs pins s σ H _ us Q I r ⟨_, rfl, h⟩
  · exact h.elim
/-! ### isinstance of built-in classes -/
def tyN (x : V) (H : Hp) : Option String := match x with
  | .non => some "NoneType"
  | .bl _ => some "bool"
  | .int _ => some "int"
  | .str _ => some "str"
  | .ref a => (match rdo H a with
    | some (.lst _) => some "list"
    | some (.tup _) => some "tuple"
    | some (.dK _) => some "dict"
    | _ => none)
  | _ => none
def subN (T c : String) : Bool := T == c || (T == "bool" && c == "int")
def okCls : List String := ["str", "int", "bool", "tuple", "list", "dict"]
theorem kit_sub {K : PySem.W.Frag} {T c : String} (hT : T ∈ ["NoneType", "bool", "int", "str", "list", "tuple", "dict"]) (hc : c ∈ okCls) : PySem.W.kitOne K (.type T) (.type c) = some (subN T c) := by
  simp only [List.mem_cons, List.not_mem_nil, or_false] at hT
  simp only [okCls, List.mem_cons, List.not_mem_nil, or_false] at hc
  rcases hT with rfl | rfl | rfl | rfl | rfl | rfl | rfl <;> rcases hc with rfl | rfl | rfl | rfl | rfl | rfl <;> exact kit_ty (by decide +kernel)
theorem tyX_of {K : PySem.W.Frag} {x : V} {H : Hp} {T : String} (h : tyN x H = some T) : TyX K H x (.type T) ∧ T ∈ ["NoneType", "bool", "int", "str", "list", "tuple", "dict"] := by
  unfold tyN at h
  split at h
  · cases h; exact ⟨.base .non, by simp⟩
  · cases h; exact ⟨.base (.bl _), by simp⟩
  · cases h; exact ⟨.base (.int _), by simp⟩
  · cases h; exact ⟨.base (.str _), by simp⟩
  · split at h
    · rename_i e
      cases h
      rcases rdo_rd e with e | ⟨o, e⟩
      · exact ⟨.base (.lst e), by simp⟩
      · exact ⟨.base (.frz e), by simp⟩
    · rename_i e
      cases h
      rcases rdo_rd e with e | ⟨o, e⟩
      · exact ⟨.base (.tup e), by simp⟩
      · exact ⟨.fTuple e, by simp⟩
    · rename_i e
      cases h
      rcases rdo_rd e with e | ⟨o, e⟩
      · exact ⟨.base (.dK e), by simp⟩
      · exact ⟨.fDict e, by simp⟩
    · cases h
  · cases h
def rIsi : List V → Hp → VK → Prop := fun vs H Q => match vs with
  | [x, .ty c] => c ∈ okCls ∧ (match tyN x H with
    | some T => Q (.bl (subN T c)) H
    | none => False)
  | _ => False
theorem callIsi : CallR X (.builtin "isinstance") rIsi := by
  intro pins s σ H xs us Q I r h
  unfold rIsi at h
  split at h
  · rename_i x c
    obtain ⟨hc, h⟩ := h
    split at h
    · rename_i T e
      obtain ⟨h1, h2⟩ := tyX_of (K := X.K) e
      exact call_isi pins s σ H _ us Q I r ⟨x, .ty c, _, _, _, rfl, .ty c, h1, kit_sub h2 hc, h⟩
    · exact h.elim
  · exact h.elim
/-! ### slices -/
def rSlice : V → Option Int → Option Int → Hp → VK → Prop := fun x lo hi H Q => match x with
  | .str z => z.length ≤ sizeLine ∧ Q (.str (cutS z lo hi)) H
  | .ref a => (match rdo H a with
    | some (.lst xs) => ∀ p, H p = none → Q (.ref p) (upd H p (.lst (cutV xs lo hi)))
    | some (.tup xs) => (HT.sIx xs.length 0 lo = 0 ∧ HT.sIx xs.length xs.length hi = xs.length → Q (.ref a) H) ∧ (¬ (HT.sIx xs.length 0 lo = 0 ∧ HT.sIx xs.length xs.length hi = xs.length) → ∀ p, H p = none → Q (.ref p) (upd H p (.tup (cutV xs lo hi))))
    | _ => False)
  | _ => False
theorem slSlice : SlR X rSlice := by
  intro pins s σ H x v vl vu lo hi sl Q I rx hs pl pu h
  unfold rSlice at h
  split at h
  · exact sl_str pins s σ H _ v vl vu lo hi sl Q I rx hs pl pu ⟨_, rfl, h.1, h.2⟩
  · split at h
    · rename_i e
      exact sl_list pins s σ H _ v vl vu lo hi sl Q I rx hs pl pu ⟨_, _, rfl, rdo_l e, h⟩
    · rename_i e
      exact sl_tupA pins s σ H _ v vl vu lo hi sl Q I rx hs pl pu ⟨_, _, rfl, rdo_t e, h.1, h.2⟩
    · exact h.elim
  · exact h.elim
/-! ### methods of lists, texts -/
def mAppend : V → List V → Hp → VK → Prop := fun x vs H Q => match x, vs with
  | .ref l, [y] => (match H l with
    | some (.lst xs) => xs.length < sizeLine ∧ Q .non (upd H l (.lst (xs ++ [y])))
    | _ => False)
  | _, _ => False
theorem mtAppend : MtR X "list.append" mAppend := by
  intro pins s σ H x xs v us Q I rx r h
  unfold mAppend at h
  split at h
  · split at h
    · rename_i e
      exact mt_append pins s σ H _ _ v us Q I rx r ⟨_, _, _, rfl, rfl, e, h.1, h.2⟩
    · exact h.elim
  · exact h.elim
/-! ### truth -/
def truN (x : V) (H : Hp) : Option Bool := match x with
  | .non => some false
  | .bl b => some b
  | .int i => some (i != 0)
  | .ref a => (match rdo H a with
    | some (.lst xs) => some (!xs.isEmpty)
    | some (.tup xs) => some (!xs.isEmpty)
    | some (.dK kvs) => (match H a with
      | some (.dK _) => some (!kvs.isEmpty)
      | _ => none)
    | _ => none)
  | _ => none
theorem truV_of {K : PySem.W.Frag} {x : V} {H : Hp} {k : Bool} (h : truN x H = some k) : TruV K x H k := by
  unfold truN at h
  split at h
  · cases h; rfl
  · cases h; rfl
  · cases h; rfl
  · split at h
    · rename_i e
      cases h
      exact Or.inl ⟨_, rdo_l e, rfl⟩
    · rename_i e
      cases h
      exact Or.inr (Or.inl ⟨_, rdo_t e, rfl⟩)
    · rename_i e
      split at h
      · rename_i kvs' e'
        cases h
        have e2 := rdo_of e' (fun _ _ z => nomatch z)
        rw [e2] at e
        cases e
        exact Or.inr (Or.inr ⟨_, e', rfl⟩)
      · cases h
    · cases h
  · cases h
/-- a value as a test -/
def tTru (ta : TE) : TT := fun σ H Q => ta σ H fun x H1 => match truN x H1 with
  | some k => Q k H1
  | none => False
theorem pt_tru {a : Expr} {ta : TE} (ha : PE X a ta) (he : ∀ whole, isTrue a X.env whole = (do let v ← whole; standAt a.pos; holding [v] (truthy v)) := by intro _; rfl) : PT X a (tTru ta) :=
  pt_truthR (r := fun x H Q => match truN x H with | some k => Q k H | none => False) ha (fun pins s σ H x v Q I rx h => by
    dsimp only at h
    split at h
    · rename_i k e
      exact tru_ok pins s σ H x v Q I rx ⟨k, truV_of e, h⟩
    · exact h.elim) he
end
end Rm
/-! Rm, part D: defs by name, the law's end. -/
namespace Rm
open PySem PySem.Spec L2
open PyProof.Rows hiding St
/-- built-in names that the module does not bind -/
structure Bt (mg : Str → Option Value) : Prop where
  len : mg "len" = none
  range : mg "range" = none
  int : mg "int" = none
  isinstance : mg "isinstance" = none
  repr : mg "repr" = none
  list : mg "list" = none
  tuple : mg "tuple" = none
  dict : mg "dict" = none
  set : mg "set" = none
  str : mg "str" = none
  bool : mg "bool" = none
  max : mg "max" = none
  min : mg "min" = none
  sorted : mg "sorted" = none
  enumerate : mg "enumerate" = none
  zip : mg "zip" = none
  abs : mg "abs" = none
  all : mg "all" = none
  any : mg "any" = none
  sup : mg "super" = none
  ve : mg "ValueError" = none
  te : mg "TypeError" = none
theorem bt_max : bootBuiltins "max" = some (.builtin "max") := by decide +kernel
theorem bt_min : bootBuiltins "min" = some (.builtin "min") := by decide +kernel
theorem bt_len : bootBuiltins "len" = some (.builtin "len") := by decide +kernel
section
variable (P : Program) (w : World) (K : PySem.W.Frag) (mg : Str → Option Value) (base : Heap)
/-- a def of the module, by its name -/
structure Def (x : Str) (ps : List Str) (k : Nat) (sp : Sp) : Prop where
  ex : ∃ (f : Addr) (fd : FuncData), mg x = some (.ref f) ∧ PySem.W.keepIn K (.ref f) = true ∧ Binds K fd ps [] ∧ FnOk P w K mg base (L2.CX P w) k f fd ps sp ∧ ∃ oc od osl, K.lookup f = some ⟨oc, od, .func fd, osl⟩
/-- the same where no repr is under way -/
structure DefG (x : Str) (ps : List Str) (k : Nat) (sp : Sp) : Prop where
  ex : ∃ (f : Addr) (fd : FuncData), mg x = some (.ref f) ∧ PySem.W.keepIn K (.ref f) = true ∧ Binds K fd ps [] ∧ FnG P w K mg base (L2.CX P w) k f fd ps sp ∧ ∃ oc od osl, K.lookup f = some ⟨oc, od, .func fd, osl⟩
end
section
variable {P : Program} {w : World} {K : PySem.W.Frag} {mg : Str → Option Value} {base : Heap}
theorem Def.g {x : Str} {ps : List Str} {k : Nat} {sp : Sp} (d : Def P w K mg base x ps k sp) : DefG P w K mg base x ps k sp := by
  obtain ⟨f, fd, a, b, c, F, l⟩ := d.ex
  exact ⟨f, fd, a, b, c, FnG.of F, l⟩
/-- a weaker promise -/
theorem Def.imp {x : Str} {ps : List Str} {k : Nat} {sp sp' : Sp} (d : Def P w K mg base x ps k sp) (h : ∀ vs H Q E, sp' vs H Q E → sp vs H Q E) : Def P w K mg base x ps k sp' := by
  obtain ⟨f, fd, a, b, c, F, l⟩ := d.ex
  exact ⟨f, fd, a, b, c, F.imp h, l⟩
/-- a def as it stands behind the top, its arguments bind in order -/
structure At (K : PySem.W.Frag) (mg : Str → Option Value) (x qual : Str) (st : Stmt) (ps : List Str) (f : Addr) (fd : FuncData) : Prop where
  fn : FunD K x qual (defArgs st) (defBody st) (defScope st) [] [] f fd
  mg : mg x = some (.ref f)
  b : Binds K fd ps []
theorem okD {x qual : Str} {st : Stmt} {f : Addr} {fd : FuncData} {N ps : List Str} {k : Nat} {sp : Sp} (F : At K mg x qual st ps f fd) (S : FnScope N ps (defScope st)) (len : ∀ vs H Q E, sp vs H Q E → vs.length = ps.length)
    (hb : ∀ (cdv : Value) (A : Around) (outer : List Env) (s : Shared) (H : Hp) (vs : List V) (Q : VK) (E : XK), Room k (cxOf (L2.CX P w) P w K mg base N qual (defScope st) f cdv A outer s H E).A →
      Takes (cxOf (L2.CX P w) P w K mg base N qual (defScope st) f cdv A outer s H E) (fun cls d _ H => E cls d H) →
      PassesOwn (model P w) (cxOf (L2.CX P w) P w K mg base N qual (defScope st) f cdv A outer s H E).A (cxOf (L2.CX P w) P w K mg base N qual (defScope st) f cdv A outer s H E).env (cxOf (L2.CX P w) P w K mg base N qual (defScope st) f cdv A outer s H E).xe → sp vs H Q E →
      ∃ t, PSs (cxOf (L2.CX P w) P w K mg base N qual (defScope st) f cdv A outer s H E) (defBody st) t ∧ t { nx := fun _ H' => Q .non H', rt := Q } (start N vs) H) : Def P w K mg base x ps (k + 1) sp := by
  have lk : ∃ oc od osl, K.lookup f = some ⟨oc, od, .func fd, osl⟩ := by
    obtain ⟨oc, od, _, _, _, _, _, _, _, osl, e, l, _⟩ := F.fn.ex
    exact ⟨oc, od, osl, by rw [l, e]⟩
  refine ⟨f, fd, F.mg, F.fn.kp, F.b, F.fn.ok S len fun cdv A outer s H vs Q E hr h => ?_, lk⟩
  exact hb cdv A outer s H vs Q E hr (takes_of rfl rfl rfl rfl) (passes_of rfl) h
theorem okDG {x qual : Str} {st : Stmt} {f : Addr} {fd : FuncData} {N ps : List Str} {k : Nat} {sp : Sp} (F : At K mg x qual st ps f fd) (S : FnScope N ps (defScope st)) (len : ∀ vs H Q E, sp vs H Q E → vs.length = ps.length)
    (hb : ∀ (cdv : Value) (A : Around) (outer : List Env) (s : Shared) (H : Hp) (vs : List V) (Q : VK) (E : XK), (cxOf (L2.CX P w) P w K mg base N qual (defScope st) f cdv A outer s H E).A.guards = some [] → Room k (cxOf (L2.CX P w) P w K mg base N qual (defScope st) f cdv A outer s H E).A →
      Takes (cxOf (L2.CX P w) P w K mg base N qual (defScope st) f cdv A outer s H E) (fun cls d _ H => E cls d H) →
      PassesOwn (model P w) (cxOf (L2.CX P w) P w K mg base N qual (defScope st) f cdv A outer s H E).A (cxOf (L2.CX P w) P w K mg base N qual (defScope st) f cdv A outer s H E).env (cxOf (L2.CX P w) P w K mg base N qual (defScope st) f cdv A outer s H E).xe → sp vs H Q E →
      ∃ t, PSs (cxOf (L2.CX P w) P w K mg base N qual (defScope st) f cdv A outer s H E) (defBody st) t ∧ t { nx := fun _ H' => Q .non H', rt := Q } (start N vs) H) : DefG P w K mg base x ps (k + 1) sp := by
  have lk : ∃ oc od osl, K.lookup f = some ⟨oc, od, .func fd, osl⟩ := by
    obtain ⟨oc, od, _, _, _, _, _, _, _, osl, e, l, _⟩ := F.fn.ex
    exact ⟨oc, od, osl, by rw [l, e]⟩
  refine ⟨f, fd, F.mg, F.fn.kp, F.b, okG F.fn S len fun cdv A outer s H vs Q E hG hr h => ?_, lk⟩
  exact hb cdv A outer s H vs Q E hG hr (takes_of rfl rfl rfl rfl) (passes_of rfl) h
/-- at the def's own object -/
theorem DefG.fn {x qual : Str} {st : Stmt} {ps : List Str} {k : Nat} {sp : Sp} {f0 : Addr} {fd0 : FuncData} (D : DefG P w K mg base x ps k sp) (F : At K mg x qual st ps f0 fd0) : FnG P w K mg base (L2.CX P w) k f0 fd0 ps sp := by
  obtain ⟨f, fd, a, _, _, Fn, oc, od, osl, l⟩ := D.ex
  have e := F.mg.symm.trans a
  injection e with e
  injection e with e
  subst e
  obtain ⟨oc', od', _, _, _, _, _, _, _, osl', ef, l', _⟩ := F.fn.ex
  have e2 := l'.symm.trans l
  injection e2 with e2
  injection e2 with _ _ e2 _
  injection e2 with e2
  rw [e2]
  exact Fn
end
section
variable {X : Cx} {k : Nat} {ps : List Str} {sp : Sp} {x : Str} {p pos : Pos} {e : Expr} {es : List Expr} {t : TA} {W : WX}
theorem pe_fn (D : Def X.prog X.w X.K X.mg X.base x ps k sp) (hr : Room k X.A) (tk : Takes X W) (ha : PA X (e :: es) t) (hg : Gl X x := by rfl) (hdb : (x == ("__debug__" : Str)) = false := by decide)
    (he : starEach (e :: es) X.env = (false, eval e X.env) :: starEach es X.env := by rfl) (hpl : (backTo pos (starEach es X.env)).any (·.1) = false := by rfl) : PE X (.Call (.Name x p) (e :: es) [] pos) (tCallS sp (WE W) t) := by
  obtain ⟨f, fd, a, b, c, F, _⟩ := D.ex
  exact pe_callS F hr hg a b c (fun σ => passAt tk σ) ha hdb he hpl
/-- the name in slot i -/
def tV (i : Nat) : TE := fun σ H Q => match σ[i]? with
  | some (some v) => Q v H
  | _ => False
theorem pn (i : Nat) (hN : X.N[i]? = some x := by rfl) (hv : Vis X.env.scope x := by first | exact Or.inl rfl | exact Or.inr (Or.inl rfl) | exact Or.inr (Or.inr rfl)) (hd : (x == ("__debug__" : Str)) = false := by decide)
    (hcd : (x == ("__classdict__" : Str)) = false := by decide) : PE X (.Name x pos) (tV i) := ⟨fun pins s σ H Q I h => by
  refine (pe_var (X := X) (i := i) hN hv hd hcd).run pins s σ H Q I ?_
  unfold tV at h
  split at h
  · rename_i v e
    exact ⟨v, e, h⟩
  · exact h.elim⟩
/-- a module's int -/
theorem pe_g {i : Int} (hm : ∃ t, X.mg x = some (.int i t)) (hg : Gl X x := by rfl) (hd : (x == ("__debug__" : Str)) = false := by decide) : PE X (.Name x pos) (tC (.int i)) := by
  obtain ⟨t, e⟩ := hm
  exact pe_glob hg e ⟨_, rfl⟩ hd
/-- one statement at a time: what follows has a name -/
theorem sq {t u : TS} {D : Ends} {σ : St} {H : Hp} (h : ∀ N : St → Hp → Prop, (∀ σ' H', u D σ' H' → N σ' H') → t { D with nx := N } σ H) : tSeq t u D σ H := h _ fun _ _ z => z
theorem room100 {A : Around} {n : Nat} (hr : Room n A) : A.units + 100 < cLine := by
  have := hr.un
  omega
end
end Rm
/-! Rm, part T: the tape of draws, as all laws have it. -/
namespace Rm
open PySem PySem.Spec L2
open PyProof.Rows hiding St
def tapeK (d m : Int) : List (Key × V) := [(.inr "digits", .int d), (.inr "mixed", .int m)]
theorem kDM : ¬ ("digits" : Str) = "mixed" := by decide +kernel
/-- a tape stands at t -/
def TapeAt (H : Hp) (t : Addr) : Prop := ∃ d m, H t = some (.dK (tapeK d m)) ∧ 0 ≤ m ∧ m < 2 ^ 32
theorem two_lt_line {n : Nat} (h : n ≤ 1000) : n < sizeLine := Nat.lt_of_le_of_lt h (by decide)
theorem bits_small {i : Int} (h : i.natAbs < 2 ^ 64) : (Builtin.Int.intBits i : Int) ≤ 64 := by
  have := PySem.intBits_le_64 (k := i) (by omega) (by omega)
  omega
theorem bits_nat {i : Int} {k : Nat} (h : i.natAbs < 2 ^ k) : Builtin.Int.intBits i ≤ k := PyProof.Rows.intBits_le h
theorem bits_lt {i : Int} {k : Nat} (h : Builtin.Int.intBits i ≤ k) : i.natAbs < 2 ^ k := by
  unfold Builtin.Int.intBits at h
  split at h
  · rename_i e
    have e' : i = 0 := by simpa using e
    subst e'
    exact Nat.two_pow_pos k
  · exact Nat.lt_of_lt_of_le Nat.lt_log2_self (Nat.pow_le_pow_right (by decide) h)
theorem tape_abs {m z : Int} {k : Nat} (hm : 0 ≤ m ∧ m < 2147483565) (hk : 100 ≤ k) (hz : z.natAbs < 2 ^ k) : (m * 30013 + z * z + 11).natAbs < 2 ^ (k + k + 1) := by
  have h1 : (z * z).natAbs < 2 ^ (k + k) := by
    rw [Int.natAbs_mul, Nat.pow_add]
    exact Nat.mul_lt_mul'' hz hz
  have a1 : (m * 30013 + z * z + 11).natAbs ≤ (m * 30013 + 11).natAbs + (z * z).natAbs := by
    rw [show m * 30013 + z * z + 11 = (m * 30013 + 11) + z * z by omega]
    exact Int.natAbs_add_le _ _
  have a2 : (m * 30013 + 11).natAbs ≤ 2 ^ 100 := by omega
  have a3 : (2 : Nat) ^ 100 ≤ 2 ^ (k + k) := Nat.pow_le_pow_right (by decide) (by omega)
  have a4 : (2 : Nat) ^ (k + k + 1) = 2 ^ (k + k) * 2 := Nat.pow_succ ..
  omega
theorem tape_bits {m z : Int} (hm : 0 ≤ m ∧ m < 2147483565) (h : Builtin.Int.intBits z ≤ 1048576) : (Builtin.Int.intBits (m * 30013 + z * z + 11) : Int) * 2 ≤ 2 ^ 27 := by
  have h3 := bits_nat (tape_abs hm (by decide) (bits_lt h))
  omega
end Rm
/-! Rm, part E: written data (literals), parts of heaps. -/
namespace Rm
open PySem PySem.Spec L2
open PyProof.Rows hiding St
/-- H without t -/
def hid (t : Addr) (H : Hp) : Hp := fun b => if b = t then none else H b
theorem hid_ne {t b : Addr} {H : Hp} (h : b ≠ t) : hid t H b = H b := if_neg h
theorem hid_some {t b : Addr} {H : Hp} {o : HO} (h : hid t H b = some o) : b ≠ t ∧ H b = some o := by
  unfold hid at h
  split at h
  · cases h
  · rename_i n
    exact ⟨n, h⟩
theorem Ext.hid_in {t : Addr} {H : Hp} : Ext (hid t H) H := fun a o h => (hid_some h).2
theorem Ext.hid {t : Addr} {H H' : Hp} (h : ∀ b o, b ≠ t → H b = some o → H' b = some o) : Ext (hid t H) (hid t H') := fun a o e => by
  obtain ⟨n, q⟩ := hid_some e
  rw [hid_ne n]
  exact h a o n q
/-- no sealed cell -/
def nofrz : HO → Bool
  | .frz _ _ => false
  | .tbl _ => false
  | _ => true
/-- what is new in H' (sealed cells left out) -/
def newp (H H' : Hp) : Hp := fun b => match H b, H' b with
  | none, some o => if nofrz o then some o else none
  | _, _ => none
theorem newp_some' {H H' : Hp} {b : Addr} {o : HO} (h : newp H H' b = some o) : H b = none ∧ H' b = some o ∧ nofrz o = true := by
  unfold newp at h
  split at h
  · rename_i e1 e2
    split at h
    · rename_i n
      cases h
      exact ⟨e1, e2, n⟩
    · cases h
  · cases h
theorem newp_some {H H' : Hp} {b : Addr} {o : HO} (h : newp H H' b = some o) : H b = none ∧ H' b = some o := ⟨(newp_some' h).1, (newp_some' h).2.1⟩
theorem newp_not {H H' : Hp} : ∀ b ps, newp H H' b ≠ some (.tbl ps) := fun b ps e => by
  have := (newp_some' e).2.2
  cases this
theorem newp_of {H H' : Hp} {b : Addr} {o : HO} (h : H b = none) (h' : H' b = some o) (n : nofrz o = true := by rfl) : newp H H' b = some o := by
  unfold newp
  rw [h, h']
  exact if_pos n
theorem Ext.none {H H' : Hp} (e : Ext H H') {b : Addr} (h : H' b = none) : H b = none := by
  cases q : H b with
  | none => rfl
  | some o => rw [e b o q] at h; cases h
theorem newp_left {H H1 H2 : Hp} (e : Ext H1 H2) : Ext (newp H H1) (newp H H2) := fun a o h => by
  obtain ⟨h1, h2, n⟩ := newp_some' h
  exact newp_of h1 (e a o h2) n
theorem newp_right {H H1 H2 : Hp} (e : Ext H H1) : Ext (newp H1 H2) (newp H H2) := fun a o h => by
  obtain ⟨h1, h2, n⟩ := newp_some' h
  exact newp_of (e.none h1) h2 n
/-- a written datum -/
def tLit (d : PyData) : TE := fun _ H Q => ∀ (v : V) (H' : Hp), Ext H H' → Dr (newp H H') v d → Q v H'
def tLitA (ds : List PyData) : TA := fun _ H Q => ∀ (vs : List V) (H' : Hp), Ext H H' → DrA (newp H H') vs ds → Q vs H'
section
variable {X : Cx}
theorem PE.imp {e : Expr} {t t' : TE} (h : PE X e t) (i : ∀ σ H Q, t' σ H Q → t σ H Q) : PE X e t' := ⟨fun pins s σ H Q I q => h.run pins s σ H Q I (i σ H Q q)⟩
theorem PA.imp {es : List Expr} {t t' : TA} (h : PA X es t) (i : ∀ σ H Q, t' σ H Q → t σ H Q) : PA X es t' := ⟨fun pos pins s σ H Q I q => h.run pos pins s σ H Q I (i σ H Q q)⟩
theorem li_int {i j pos} : PE X (.Constant (.int i) j pos) (tLit (.int i)) := PE.imp pe_int fun _ H _ q => q (.int i) H (Ext.refl H) (.int i)
theorem li_bl {b j pos} : PE X (.Constant (.bool b) j pos) (tLit (.bool b)) := PE.imp pe_bl fun _ H _ q => q (.bl b) H (Ext.refl H) (.bl b)
theorem li_non {j pos} : PE X (.Constant .none j pos) (tLit .none) := PE.imp pe_non fun _ H _ q => q .non H (Ext.refl H) .non
theorem li_str {x j pos} : PE X (.Constant (.str x) j pos) (tLit (.str x)) := PE.imp pe_str fun _ H _ q => q (.str x) H (Ext.refl H) (.str x)
/-- a number reckoned from written ones -/
theorem li_num {e : Expr} {t : TE} {i : Int} (h : PE X e t) (i' : ∀ σ H (Q : VK), Q (.int i) H → t σ H Q) : PE X e (tLit (.int i)) := PE.imp h fun σ H Q q => i' σ H Q (q (.int i) H (Ext.refl H) (.int i))
theorem la_nil : PA X [] (tLitA []) := PA.imp pa_nil fun _ H _ q => q [] H (Ext.refl H) .nil
theorem la_cons {e : Expr} {es : List Expr} {d : PyData} {ds : List PyData} (h : PE X e (tLit d)) (hr : PA X es (tLitA ds)) (hs : starEach (e :: es) X.env = (false, eval e X.env) :: starEach es X.env := by rfl) : PA X (e :: es) (tLitA (d :: ds)) :=
  PA.imp (pa_cons h hr hs) fun σ H Q q v H1 e1 d1 vs H2 e2 d2 => q (v :: vs) H2 (e1.trans e2) (.cons (Dr.ext (newp_left e2) d1) (DrA.ext (newp_right e1) d2))
theorem li_tup {es : List Expr} {x1 pos} {ds : List PyData} (h : PA X es (tLitA ds)) (hl : ds.length ≤ 1000 := by decide) : PE X (.Tuple es x1 pos) (tLit (.tuple ds)) :=
  PE.imp (pe_tup h) fun σ H Q q vs H1 e1 d1 => ⟨by have := d1.length; exact Nat.le_of_lt (two_lt_line (by omega)), fun p hp => q (.ref p) _ (e1.trans (Ext.new hp)) (.tup (rdo_of (newp_of (e1.none hp) upd_same) (fun _ _ z => nomatch z)) (DrA.ext (newp_left (Ext.new hp)) d1))⟩
theorem li_lst {es : List Expr} {pos} {ds : List PyData} (h : PA X es (tLitA ds)) (hl : ds.length ≤ 1000 := by decide) : PE X (.List es pos) (tLit (.list ds)) :=
  PE.imp (pe_lst h) fun σ H Q q vs H1 e1 d1 => ⟨by have := d1.length; exact Nat.le_of_lt (two_lt_line (by omega)), fun p hp => q (.ref p) _ (e1.trans (Ext.new hp)) (.lst (rdo_of (newp_of (e1.none hp) upd_same) (fun _ _ z => nomatch z)) (DrA.ext (newp_left (Ext.new hp)) d1))⟩
theorem li_dict0 {pos} : PE X (.Dict [] [] pos) (tLit (.dict [])) := PE.imp pe_dnewK fun σ H Q q p hp => q (.ref p) _ (Ext.new hp) (.dct (rdo_of (newp_of hp upd_same) (fun _ _ z => nomatch z)) .nil)
/-- a dict of one written pair -/
theorem li_dict1 {k v : Expr} {kk : Key} {d : PyData} {pos} (hk : PE X k (tC (kV kk))) (hv : PE X v (tLit d)) : PE X (.Dict [some k] [v] pos) (tLit (.dict [(keyD kk, d)])) :=
  PE.imp (pe_disp (pps_cons hk hv pps_nil) rfl rfl (fun z => by cases z) (by show 1 ≤ 15; decide)) fun σ H Q q p hp => fun x H1 e1 d1 => by
    have ep : H1 p = some (.dK []) := e1 _ _ upd_same
    refine ⟨ep, [(kk, x)], rfl, by show 1 ≤ 15; decide, q (.ref p) _ ?_ ?_⟩
    · exact fun a o h => by rw [upd_ne (ne_of_none h hp)]; exact e1 a o (by rw [upd_ne (ne_of_none h hp)]; exact h)
    · refine .dct (rdo_of (newp_of hp upd_same) (fun _ _ z => nomatch z)) (.cons (Dr.ext (fun a o h => ?_) d1) .nil)
      obtain ⟨h1, h2, nf⟩ := newp_some' h
      have n : a ≠ p := fun z => by rw [z, upd_same] at h1; cases h1
      rw [upd_ne n] at h1
      exact newp_of h1 (by rw [upd_ne n]; exact h2) nf
end
theorem DrA.append {H : Hp} : ∀ {vs ws : List V} {ds es : List PyData}, DrA H vs ds → DrA H ws es → DrA H (vs ++ ws) (ds ++ es)
  | [], _, _, _, a, b => by cases a; exact b
  | v :: vs, _, _, _, a, b => by
    cases a with
    | cons h a => exact .cons h (DrA.append a b)
theorem DrA.mem {H : Hp} {v : V} : ∀ {vs : List V} {ds : List PyData}, DrA H vs ds → v ∈ vs → ∃ d, d ∈ ds ∧ Dr H v d
  | [], _, _, h => by cases h
  | w :: vs, _, a, h => by
    cases a with
    | @cons _ _ d ds h1 a =>
      rcases List.mem_cons.mp h with e | h
      · subst e
        exact ⟨d, List.mem_cons_self, h1⟩
      · obtain ⟨d', m, q⟩ := DrA.mem a h
        exact ⟨d', List.mem_cons_of_mem _ m, q⟩
end Rm
/-! Rm, part F: how long a datum is, shown. -/
namespace Rm
open PySem PySem.Spec L2
open PyProof.Rows hiding St
mutual
def lnB : PyData → Nat
  | .none => 4
  | .bool _ => 5
  | .int _ => 1921
  | .str x => 10 * x.length + 2
  | .list xs => lnA xs + 3
  | .tuple xs => lnA xs + 4
  | .dict kvs => lnK kvs + 3
def lnA : List PyData → Nat
  | [] => 0
  | x :: xs => lnB x + 2 + lnA xs
def lnK : List (PyData × PyData) → Nat
  | [] => 0
  | (k, v) :: r => lnB k + lnB v + 4 + lnK r
end
mutual
def okB : PyData → Bool
  | .none => true
  | .bool _ => true
  | .int i => decide (i.natAbs.log2 < 1920)
  | .str x => x.cps.toList.all fun c => decide (c < 16 ^ 8)
  | .list xs => okA xs
  | .tuple xs => okA xs
  | .dict kvs => okK kvs
def okA : List PyData → Bool
  | [] => true
  | x :: xs => okB x && okA xs
def okK : List (PyData × PyData) → Bool
  | [] => true
  | (k, v) :: r => okB k && (okB v && okK r)
end
theorem listText_le (ts : List Str) : (listText ts).length ≤ piled ts + 3 := by
  cases ts with
  | nil => decide
  | cons t r =>
    unfold listText
    rw [strLen_append]
    show (textFrom 1 _ r).length + 1 ≤ _
    rw [textFrom_length_pos r 1 _ (Nat.succ_pos 0), piled_cons, strLen_append, strLen_append]
    show 1 + 0 + t.length + piled r + 1 ≤ _
    omega
theorem join_le (ts : List Str) : (Str.join ", " ts).length ≤ piled ts := by
  by_cases h : ts = []
  · subst h; decide
  · have := join_length_add ts h
    omega
theorem tupleText_le (ts : List Str) : (tupleText ts).length ≤ piled ts + 4 := by
  unfold tupleText
  rw [strLen_append, strLen_append]
  have e1 : ((("(" : String) : Str)).length = 1 := rfl
  have e3 : (((if ts.length == 1 then ",)" else ")" : String) : Str)).length ≤ 2 := by split <;> decide
  have := join_le ts
  rw [e1]
  omega
theorem dictText_le (ts : List Str) : (dictText ts).length ≤ piled ts + 3 := by
  unfold dictText
  rw [strLen_append, strLen_append]
  have := join_le ts
  show 1 + _ + 1 ≤ _
  omega
mutual
theorem shown_le : ∀ d : PyData, okB d = true → d.showable = true ∧ d.shown.length ≤ lnB d
  | .none, _ => by simp only [PyData.showable, PyData.shown, lnB]; exact ⟨trivial, by decide⟩
  | .bool b, _ => by simp only [PyData.showable, PyData.shown, lnB]; exact ⟨trivial, by cases b <;> decide⟩
  | .int i, h => by
    simp only [okB] at h
    simp only [PyData.showable, PyData.shown, lnB]
    exact ⟨h, int_text_len_1921 (of_decide_eq_true h)⟩
  | .str x, h => by
    simp only [okB, List.all_eq_true, decide_eq_true_eq] at h
    simp only [PyData.showable, PyData.shown, lnB]
    exact ⟨trivial, StrLaws.reprText_len x h⟩
  | .list xs, h => by
    simp only [okB] at h
    obtain ⟨a, b⟩ := shown_leA xs h
    simp only [PyData.showable, PyData.shown, lnB]
    exact ⟨a, Nat.le_trans (listText_le _) (by omega)⟩
  | .tuple xs, h => by
    simp only [okB] at h
    obtain ⟨a, b⟩ := shown_leA xs h
    simp only [PyData.showable, PyData.shown, lnB]
    exact ⟨a, Nat.le_trans (tupleText_le _) (by omega)⟩
  | .dict kvs, h => by
    simp only [okB] at h
    obtain ⟨a, b⟩ := shown_leK kvs h
    simp only [PyData.showable, PyData.shown, lnB]
    exact ⟨a, Nat.le_trans (dictText_le _) (by omega)⟩
theorem shown_leA : ∀ ds : List PyData, okA ds = true → PyData.showableAll ds = true ∧ piled (PyData.shownAll ds) ≤ lnA ds
  | [], _ => by simp only [PyData.showableAll, PyData.shownAll, lnA, piled_nil]; exact ⟨trivial, Nat.le_refl _⟩
  | x :: xs, h => by
    simp only [okA, Bool.and_eq_true] at h
    obtain ⟨a, b⟩ := shown_le x h.1
    obtain ⟨c, d⟩ := shown_leA xs h.2
    simp only [PyData.showableAll, PyData.shownAll, lnA, piled_cons, a, c]
    exact ⟨rfl, by omega⟩
theorem shown_leK : ∀ ds : List (PyData × PyData), okK ds = true → PyData.showableKv ds = true ∧ piled (PyData.shownKv ds) ≤ lnK ds
  | [], _ => by simp only [PyData.showableKv, PyData.shownKv, lnK, piled_nil]; exact ⟨trivial, Nat.le_refl _⟩
  | (k, v) :: xs, h => by
    simp only [okK, Bool.and_eq_true] at h
    obtain ⟨a, b⟩ := shown_le k h.1
    obtain ⟨a', b'⟩ := shown_le v h.2.1
    obtain ⟨c, d⟩ := shown_leK xs h.2.2
    simp only [PyData.showableKv, PyData.shownKv, lnK, piled_cons, a, a', c]
    refine ⟨rfl, ?_⟩
    rw [strLen_append, strLen_append]
    show k.shown.length + 2 + _ + 2 + _ ≤ _
    omega
end
/-- shown at most n signs, at most k deep -/
def fineB (n k : Nat) (d : PyData) : Bool := okB d && (decide (lnB d ≤ n) && decide (d.depth ≤ k))
def Fine (n k : Nat) (d : PyData) : Prop := fineB n k d = true
theorem fine_iff {n k : Nat} {d : PyData} : Fine n k d ↔ okB d = true ∧ lnB d ≤ n ∧ d.depth ≤ k := by
  simp only [Fine, fineB, Bool.and_eq_true, decide_eq_true_eq]
theorem Fine.mono {n k n' k' : Nat} {d : PyData} (h : Fine n k d) (hn : n ≤ n') (hk : k ≤ k') : Fine n' k' d := by
  obtain ⟨a, b, c⟩ := fine_iff.mp h
  exact fine_iff.mpr ⟨a, by omega, by omega⟩
theorem log2_small {i : Int} (h0 : -(2 ^ 200) < i) (h1 : i < 2 ^ 200) : i.natAbs.log2 < 1920 := by
  by_cases z : i.natAbs = 0
  · rw [z]; decide
  · exact (Nat.log2_lt z).mpr (Nat.lt_of_lt_of_le (show i.natAbs < 2 ^ 200 by omega) (Nat.pow_le_pow_right (by decide) (by decide)))
theorem fine_int {n k : Nat} {i : Int} (h0 : -(2 ^ 200) < i) (h1 : i < 2 ^ 200) (h : 1921 ≤ n := by decide) : Fine n k (.int i) := fine_iff.mpr ⟨by simp only [okB, decide_eq_true_eq]; exact log2_small h0 h1, by simp only [lnB]; exact h, by simp only [PyData.depth]; omega⟩
theorem fine_str {n k : Nat} {x : Str} (hx : ∀ c ∈ x.cps.toList, c < 16 ^ 8) (h : 10 * x.length + 2 ≤ n) : Fine n k (.str x) := fine_iff.mpr ⟨by simp only [okB, List.all_eq_true, decide_eq_true_eq]; exact hx, by simp only [lnB]; exact h, by simp only [PyData.depth]; omega⟩
theorem fine_all {n k : Nat} : ∀ {ds : List PyData}, (∀ d ∈ ds, Fine n k d) → okA ds = true ∧ lnA ds ≤ ds.length * (n + 2) ∧ PyData.depthAll ds ≤ k
  | [], _ => ⟨by simp only [okA], by simp only [lnA]; omega, by simp only [PyData.depthAll]; omega⟩
  | d :: ds, h => by
    obtain ⟨a, b, c⟩ := fine_iff.mp (h d List.mem_cons_self)
    obtain ⟨a', b', c'⟩ := fine_all (ds := ds) (fun e he => h e (List.mem_cons_of_mem _ he))
    refine ⟨by simp only [okA, a, a']; rfl, ?_, ?_⟩
    · simp only [lnA, List.length_cons, Nat.succ_mul]
      omega
    · simp only [PyData.depthAll]
      omega
theorem fine_list {n k m : Nat} {ds : List PyData} (h : ∀ d ∈ ds, Fine n k d) (hl : ds.length ≤ m) : Fine (m * (n + 2) + 4) (k + 1) (.list ds) := by
  obtain ⟨a, b, c⟩ := fine_all h
  have := Nat.mul_le_mul_right (n + 2) hl
  exact fine_iff.mpr ⟨by simp only [okB]; exact a, by simp only [lnB]; omega, by simp only [PyData.depth]; omega⟩
theorem fine_tup {n k m : Nat} {ds : List PyData} (h : ∀ d ∈ ds, Fine n k d) (hl : ds.length ≤ m) : Fine (m * (n + 2) + 4) (k + 1) (.tuple ds) := by
  obtain ⟨a, b, c⟩ := fine_all h
  have := Nat.mul_le_mul_right (n + 2) hl
  exact fine_iff.mpr ⟨by simp only [okB]; exact a, by simp only [lnB]; omega, by simp only [PyData.depth]; omega⟩
theorem Fine.shows {n k : Nat} {d : PyData} (h : Fine n k d) (hn : n ≤ sizeLine) (hk : k ≤ 60) : d.showable = true ∧ d.shown.length ≤ sizeLine ∧ d.depth ≤ 60 := by
  obtain ⟨a, b, c⟩ := fine_iff.mp h
  obtain ⟨e, f⟩ := shown_le d a
  exact ⟨e, by omega, by omega⟩
theorem size_big : 2000000 ≤ sizeLine := by decide
end Rm
/-! Rm, part G: calls with keywords, module tuples. -/
namespace Rm
open PySem PySem.Spec L2
open PyProof.Rows hiding St
section
variable {P : Program} {w : World} {K : PySem.W.Frag} {mg : Str → Option Value} {base : Heap}
/-- a module's tuple -/
def Cst (K : PySem.W.Frag) (mg : Str → Option Value) (x : Str) (xs : List V) : Prop := ∃ p, mg x = some (.ref p) ∧ ∀ H, SqT K H p xs
end
section
variable {X : Cx} {k n : Nat} {ks : List Str} {sp : Sp} {x : Str} {p pos : Pos} {e : Expr} {es : List Expr} {kws : List Keyword} {t tk : TA} {W : WX} {gV : List V → List V → List V}
/-- the tuple of the module's x -/
def tCst (K : PySem.W.Frag) (xs : List V) : TE := fun _ H Q => ∀ p, (∀ H, SqT K H p xs) → Q (.ref p) H
theorem pe_cst {xs : List V} (c : Cst X.K X.mg x xs) (hg : Gl X x := by rfl) (hd : (x == ("__debug__" : Str)) = false := by decide) : PE X (.Name x pos) (tCst X.K xs) := by
  obtain ⟨q, e, h⟩ := c
  exact ⟨fun pins s σ H Q I z => (pe_glob (v := .ref q) (pos := pos) hg e (show RelV (.ref q) (.ref q) from rfl) hd).run pins s σ H Q I (z q h)⟩
end
/-- an expression that gives a tuple of xs -/
structure PC (X : Cx) (b : Expr) (xs : List V) (g : Hp → (Hp → Prop) → Prop) : Prop where
  ev : PE X b (fun _ H Q => g H fun H' => ∀ p, SqT X.K H' p xs → Q (.ref p) H')
/-- x in a written tuple of plain items -/
def tInC (neg : Bool) (xs : List V) (g : Hp → (Hp → Prop) → Prop) (te : TE) : TE := fun σ H Q => te σ H fun v H1 => flatV v = true ∧ xs.all flatV = true ∧ g H1 fun H2 => Q (.bl (if neg then !inV v xs else inV v xs)) H2
/-- it leaves the heap as it is -/
def gC : Hp → (Hp → Prop) → Prop := fun H q => q H
def gN (xs : List V) : Hp → (Hp → Prop) → Prop := fun H q => ∀ p, H p = none → q (upd H p (.tup xs))
section
variable {X : Cx} {x : Str} {e b : Expr} {te : TE} {p pos : Pos} {xs : List V} {g : Hp → (Hp → Prop) → Prop}
theorem pc_cst (c : Cst X.K X.mg x xs) (hg : Gl X x := by rfl) (hd : (x == ("__debug__" : Str)) = false := by decide) : PC X (.Name x pos) xs gC :=
  ⟨PE.imp (pe_cst c hg hd) fun σ H Q h p hp => h p (hp H)⟩
theorem pc_cut {tl tu : TO} {l u : Option Expr} {lo hi : Option Int} {p1 : Pos} (c : Cst X.K X.mg x xs) (hl : PO X l tl) (hu : PO X u tu) (el : ∀ σ H Q, Q lo H → tl σ H Q) (eu : ∀ σ H Q, Q hi H → tu σ H Q)
    (hw : ¬ (HT.sIx xs.length 0 lo = 0 ∧ HT.sIx xs.length xs.length hi = xs.length) := by decide) (hg : Gl X x := by rfl) (hd : (x == ("__debug__" : Str)) = false := by decide) : PC X (.Subscript (.Name x p) (.Slice l u none p1) pos) (cutV xs lo hi) (gN (cutV xs lo hi)) :=
  ⟨PE.imp (pe_slice sl_tup (pe_cst c hg hd) hl hu) fun σ H Q h p hp => el σ H _ (eu σ H _ ⟨p, xs, rfl, hp H, hw, fun q hq => h q hq q (Or.inl (Or.inl upd_same))⟩)⟩
theorem pe_inC (he : PE X e te) (c : PC X b xs g) (gm : ∀ {H : Hp} {q r : Hp → Prop}, (∀ H, q H → r H) → g H q → g H r) (hm : behindInMarks .In b = false := by rfl) : PE X (.Compare e [.In] [b] pos) (tInC false xs g te) := by
  refine ⟨fun pins s σ H Q I h => wpAny_Compare1 (thn (he.run pins s σ H _ I h) fun v s1 z => ?_) hm⟩
  obtain ⟨x, H1, I1, r1, f1, f2, q⟩ := z
  refine thn (c.ev.run pins s1 σ H1 (fun y H2 => rIn X.K false x y H2 Q) I1 (gm (fun H2 q2 p hp => ⟨p, xs, rfl, Or.inr hp, f1, f2, q2⟩) q)) fun u s2 z => ?_
  obtain ⟨y, H2, I2, r2, q2⟩ := z
  exact op_in_seq pins s2 σ H2 x y v u Q I2 r1 r2 q2
theorem pt_inC (he : PE X e te) (c : PC X b xs g) (gm : ∀ {H : Hp} {q r : Hp → Prop}, (∀ H, q H → r H) → g H q → g H r) (hm : behindInMarks .In b = false := by rfl) : PT X (.Compare e [.In] [b] pos) (tTest (tInC false xs g te)) := by
  refine ⟨fun pins s σ H Q I h => wpAny_isTrue_Compare1 (thn (he.run pins s σ H _ I h) fun v s1 z => ?_) hm⟩
  obtain ⟨x, H1, I1, r1, f1, f2, q⟩ := z
  refine thn (c.ev.run pins s1 σ H1 (fun y H2 => rIn X.K false x y H2 fun z H3 => ∃ k, z = .bl k ∧ Q k H3) I1 (gm (fun H2 q2 p hp => ⟨p, xs, rfl, Or.inr hp, f1, f2, q2⟩) q)) fun u s2 z => ?_
  obtain ⟨y, H2, I2, r2, q2⟩ := z
  refine thn (op_in_seq pins s2 σ H2 x y v u _ I2 r1 r2 q2) fun c s3 z => ?_
  obtain ⟨z, H3, I3, r3, k, e, q3⟩ := z
  subst e
  cases r3
  exact wpAny_truthy_bool ⟨H3, I3, q3⟩
theorem pt_ninC (he : PE X e te) (c : PC X b xs g) (gm : ∀ {H : Hp} {q r : Hp → Prop}, (∀ H, q H → r H) → g H q → g H r) (hm : behindInMarks .NotIn b = false := by rfl) : PT X (.Compare e [.NotIn] [b] pos) (tTest (tInC true xs g te)) := by
  refine ⟨fun pins s σ H Q I h => wpAny_isTrue_Compare1 (thn (he.run pins s σ H _ I h) fun v s1 z => ?_) hm⟩
  obtain ⟨x, H1, I1, r1, f1, f2, q⟩ := z
  refine thn (c.ev.run pins s1 σ H1 (fun y H2 => rIn X.K true x y H2 fun z H3 => ∃ k, z = .bl k ∧ Q k H3) I1 (gm (fun H2 q2 p hp => ⟨p, xs, rfl, Or.inr hp, f1, f2, q2⟩) q)) fun u s2 z => ?_
  obtain ⟨y, H2, I2, r2, q2⟩ := z
  refine thn (op_notIn_seq pins s2 σ H2 x y v u _ I2 r1 r2 q2) fun c s3 z => ?_
  obtain ⟨z, H3, I3, r3, k, e, q3⟩ := z
  subst e
  cases r3
  exact wpAny_truthy_bool ⟨H3, I3, q3⟩
theorem gC_m {H : Hp} {q r : Hp → Prop} (h : ∀ H, q H → r H) (k : gC H q) : gC H r := h H k
theorem gN_m {H : Hp} {q r : Hp → Prop} (h : ∀ H, q H → r H) (k : gN xs H q) : gN xs H r := fun p hp => h _ (k p hp)
end
end Rm
/-! Rm, part I: values and their data. -/
namespace Rm
open PySem PySem.Spec L2
open PyProof.Rows hiding St
def isS : PyData → Bool
  | .str _ => true
  | _ => false
theorem inV_str (ws : List Str) (s : Str) : inV (.str s) (ws.map V.str) = ws.any fun w => decide (w = s) := by
  induction ws with
  | nil => rfl
  | cons w r ih =>
    have e : eqV (.str w) (.str s) = decide (w = s) := rfl
    simp only [inV, List.map_cons, List.any_cons, e] at ih ⊢
    rw [ih]
theorem DrA.set {H : Hp} {w : V} {e : PyData} (he : Dr H w e) : ∀ {vs : List V} {ds : List PyData}, DrA H vs ds → ∀ i : Nat, DrA H (vs.set i w) (ds.set i e)
  | [], _, a, i => by cases a; exact .nil
  | v :: vs, _, a, i => by
    cases a with
    | cons h1 a =>
      cases i with
      | zero => exact .cons he a
      | succ i => exact .cons h1 (DrA.set he a i)
theorem DrA.rev {H : Hp} : ∀ {vs : List V} {ds : List PyData}, DrA H vs ds → DrA H vs.reverse ds.reverse
  | [], _, a => by cases a; exact .nil
  | v :: vs, _, a => by
    cases a with
    | cons h1 a =>
      rw [List.reverse_cons, List.reverse_cons]
      exact (DrA.rev a).append (.cons h1 .nil)
/-- the tape goes on, all else stands -/
structure Tp (t : Addr) (H H' : Hp) : Prop where
  a : TapeAt H t
  b : TapeAt H' t
  x : ∀ b o, b ≠ t → H b = some o → H' b = some o
section
variable {t : Addr} {H H0 H1 H2 : Hp}
theorem tape_some (h : TapeAt H t) : H t ≠ none := by
  obtain ⟨d, m, e, _⟩ := h
  rw [e]
  exact fun z => by cases z
theorem TapeAt.ext (h : TapeAt H t) (e : Ext H H1) : TapeAt H1 t := by
  obtain ⟨d, m, q, r⟩ := h
  exact ⟨d, m, e _ _ q, r⟩
theorem Tp.of_ext (h : TapeAt H t) (e : Ext H H1) : Tp t H H1 := ⟨h, h.ext e, fun b o _ z => e b o z⟩
theorem Tp.trans (p : Tp t H H1) (q : Tp t H1 H2) : Tp t H H2 := ⟨p.a, q.b, fun b o n z => q.x b o n (p.x b o n z)⟩
theorem Tp.none {b : Addr} (p : Tp t H H1) (h : H1 b = none) : H b = none := by
  cases q : H b with
  | none => rfl
  | some o =>
    by_cases n : b = t
    · subst n
      exact absurd h (tape_some p.b)
    · rw [p.x b o n q] at h
      cases h
theorem Tp.left (p : Tp t H0 H) (q : Tp t H H1) : Ext (newp H0 H) (newp H0 H1) := fun a o z => by
  obtain ⟨h1, h2, n⟩ := newp_some' z
  exact newp_of h1 (q.x a o (fun e => tape_some p.a (e ▸ h1)) h2) n
theorem Tp.right (p : Tp t H0 H) : Ext (newp H H1) (newp H0 H1) := fun a o z => by
  obtain ⟨h1, h2, n⟩ := newp_some' z
  exact newp_of (p.none h1) h2 n
theorem hid_mono {l : Addr} (h : Ext H H1) : Ext (hid l H) (hid l H1) := Ext.hid fun b o _ z => h b o z
theorem newp_hid1 {l : Addr} {o : HO} (h : H l = some o) : Ext (newp H H1) (hid l (newp H H1)) := fun a u z => by
  have := (newp_some z).1
  rw [hid_ne (fun e => by rw [e, h] at this; cases this)]
  exact z
theorem TapeAt.upd {p : Addr} {o : HO} (h : TapeAt H t) (n : p ≠ t) : TapeAt (upd H p o) t := by
  obtain ⟨d, m, q, r⟩ := h
  exact ⟨d, m, by rw [upd_ne (Ne.symm n)]; exact q, r⟩
end
end Rm
/-! Rm, part J: the readings of part C, case by case (printed by mkeq.py). -/
/-! Rm, part K: walks over whatever is at hand; comprehensions. -/
namespace Rm
open PySem PySem.Spec L2
open PyProof.Rows hiding St
/-- no exception leaves -/
def noW : WX := fun _ _ _ _ => False
theorem tkF {X : Cx} : Takes X noW := fun u s' x => by
  obtain ⟨_, _, _, _, _, _, _, _, _, _, _, _, _, _, _, _, z⟩ := x
  exact z.elim
/-- a list, a tuple or a text, walked -/
def iAny (K : PySem.W.Frag) (te : TE) : TI := fun σ H R => te σ H fun v H1 => match v with
  | .ref a => (match rdo H1 a with
    | some (.lst _) => R (Itl K a) H1
    | some (.tup _) => R (Itt K a) H1
    | _ => False)
  | .str z => R (Its z) H1
  | _ => False
theorem pi_any {X : Cx} {tg e : Expr} {te : TE} (he : PE X e te) : PI X tg e (iAny X.K te) := by
  refine ⟨fun pins s σ H R I h => thn (he.run pins s σ H _ I h) fun v s1 z => ?_⟩
  obtain ⟨y, H1, I1, r1, q⟩ := z
  split at q
  · obtain rfl := (show v = Value.ref _ from r1)
    split at q
    · rename_i e
      obtain ⟨its, rv, p, _⟩ := I1.list (rdo_l e)
      exact wpAny_pyIter_list p.isList (pi_one (tk := s1.toks) I1 _ (turn_list _ _) ⟨_, Heap.get?_push_size _ rfl, rfl, rfl⟩ q)
    · rename_i e
      obtain ⟨its, rv, p, _⟩ := I1.tuple (rdo_t e)
      exact wpAny_pyIter_tuple (show s1.heap.IsTuple _ its.toArray from p) (pi_one (tk := s1.toks) I1 _ (turn_tuple _ _) ⟨_, Heap.get?_push_size _ rfl, rfl, rfl⟩ q)
    · exact q.elim
  · rename_i z
    obtain ⟨t, rfl⟩ := r1
    cases ha : z.cps.all (· < 128)
    · exact wpAny_pyIter_wide ha (pi_one (tk := s1.toks) I1 _ (turn_str _ z t "str_iterator" (.inr rfl)) ⟨_, Heap.get?_push_size _ rfl, rfl, rfl⟩ q)
    · exact wpAny_pyIter_ascii ha (pi_one (tk := s1.toks) I1 _ (turn_str _ z t "str_ascii_iterator" (.inl rfl)) ⟨_, Heap.get?_push_size _ rfl, rfl, rfl⟩ q)
  · exact q.elim
/-- x in a text, x a sign -/
def rInT : R2 := fun x y H Q => match x, y with
  | .str a, .str z => (match a.cps.toList with
    | [c] => Q (.bl (decide (c ∈ z.cps.toList))) H
    | _ => False)
  | _, _ => False
section
variable {X : Cx} {x : Str} {pos : Pos}
theorem opInT : OpR X (compareOp .In) rInT := by
  intro pins s σ H x y v u Q I rx ry h
  unfold rInT at h
  split at h
  · rename_i a z
    split at h
    · rename_i c e
      have ea : a = ⟨#[c]⟩ := by
        obtain ⟨l⟩ := a
        have : l = #[c] := by
          have := congrArg List.toArray e
          simpa using this
        rw [this]
      subst ea
      exact op_inS pins s σ H _ _ v u Q I rx ry ⟨c, z, rfl, rfl, h⟩
    · exact h.elim
  · exact h.elim
/-- a module's text -/
theorem pe_gs {i : Str} (hm : ∃ t, X.mg x = some (.str i t)) (hg : Gl X x := by rfl) (hd : (x == ("__debug__" : Str)) = false := by decide) : PE X (.Name x pos) (tC (.str i)) := by
  obtain ⟨t, e⟩ := hm
  exact pe_glob hg e ⟨_, rfl⟩ hd
end
/-! ### a list that is being made, apart from all else -/
structure LstI (t : Addr) (H0 : Hp) (l : Addr) (H : Hp) (xs : List V) (ds : List PyData) : Prop where
  p : Tp t H0 H
  n : H0 l = none
  at_ : H l = some (.lst xs)
  A : DrA (hid l (newp H0 H)) xs ds
section
variable {t l p : Addr} {H0 H H' : Hp} {xs ys : List V} {ds es : List PyData}
theorem LstI.lt (I : LstI t H0 l H xs ds) : l ≠ t := fun e => by
  subst e
  exact tape_some I.p.a I.n
theorem LstI.put (I : LstI t H0 l H xs ds) (A : DrA (hid l (newp H0 H)) ys es) : LstI t H0 l (upd H l (.lst ys)) ys es := by
  refine ⟨⟨I.p.a, I.p.b.upd I.lt, fun b o n e => ?_⟩, I.n, upd_same, DrA.ext (fun b o e => ?_) A⟩
  · have : b ≠ l := fun q => by rw [q, I.n] at e; cases e
    rw [upd_ne this]
    exact I.p.x b o n e
  · obtain ⟨n, e⟩ := hid_some e
    obtain ⟨h1, h2, h3⟩ := newp_some' e
    rw [hid_ne n]
    exact newp_of h1 (by rw [upd_ne n]; exact h2) h3
/-- a new list of such items -/
theorem LstI.fresh (I : LstI t H0 l H xs ds) (hp : H p = none) (A : DrA (hid l (newp H0 H)) ys es) : LstI t H0 p (upd H p (.lst ys)) ys es := by
  have q := I.p.trans (Tp.of_ext I.p.b (Ext.new (o := .lst ys) hp))
  refine ⟨q, I.p.none hp, upd_same, DrA.ext (fun b o e => ?_) A⟩
  obtain ⟨n, e⟩ := hid_some e
  obtain ⟨h1, h2, h3⟩ := newp_some' e
  have n2 : b ≠ p := ne_of_none h2 hp
  rw [hid_ne n2]
  exact newp_of h1 (by rw [upd_ne n2]; exact h2) h3
/-- a datum made behind, within -/
theorem LstI.new {v : V} {d : PyData} (I : LstI t H0 l H xs ds) (q : Tp t H H') (h : Dr (newp H H') v d) : Dr (hid l (newp H0 H')) v d := Dr.ext ((newp_hid1 I.at_).trans (hid_mono I.p.right)) h
theorem LstI.rd (I : LstI t H0 l H xs ds) : rdo H l = some (.lst xs) := rdo_of I.at_ (fun _ _ z => nomatch z)
theorem LstI.dr (I : LstI t H0 l H xs ds) : Dr (newp H0 H) (.ref l) (.list ds) := .lst (rdo_of (newp_of I.n I.at_) (fun _ _ z => nomatch z)) (DrA.ext Ext.hid_in I.A)
theorem LstI.len (I : LstI t H0 l H xs ds) : xs.length = ds.length := I.A.length
/-- the tuple of its items -/
theorem LstI.tup (I : LstI t H0 l H xs ds) (hp : H p = none) : Tp t H0 (upd H p (.tup xs)) ∧ Dr (newp H0 (upd H p (.tup xs))) (.ref p) (.tuple ds) := by
  have q := Tp.of_ext (H1 := upd H p (.tup xs)) I.p.b (Ext.new hp)
  exact ⟨I.p.trans q, .tup (rdo_of (newp_of (I.p.none hp) upd_same) (fun _ _ z => nomatch z)) (DrA.ext (I.p.left q) (DrA.ext Ext.hid_in I.A))⟩
end
theorem DrA.ins {H : Hp} {w : V} {e : PyData} (he : Dr H w e) : ∀ {vs : List V} {ds : List PyData}, DrA H vs ds → ∀ i : Nat, DrA H (vs.take i ++ [w] ++ vs.drop i) (ds.take i ++ [e] ++ ds.drop i)
  | [], _, a, i => by cases a; simp; exact .cons he .nil
  | v :: vs, _, a, i => by
    cases a with
    | cons h1 a =>
      cases i with
      | zero => exact .cons he (.cons h1 a)
      | succ i => exact .cons h1 (DrA.ins he a i)
theorem DrA.rep {H : Hp} {vs : List V} {ds : List PyData} (h : DrA H vs ds) : ∀ n : Nat, DrA H (List.replicate n vs).flatten (List.replicate n ds).flatten
  | 0 => .nil
  | n + 1 => by
    rw [List.replicate_succ, List.replicate_succ, List.flatten_cons, List.flatten_cons]
    exact h.append (DrA.rep h n)
end Rm
/-! Rm, part H: the law's end (repr allowed, the script's bits known). -/
namespace Rm
open PySem PySem.Spec L2
open PyProof.Rows hiding St
/-- what stands before a law's call -/
structure Before (P : Program) (w : World) (K : PySem.W.Frag) (mg mb : Str → Option Value) (s : Shared) (a : Addr) (vs : List Value) (ns : List Int) : Prop where
  kin : K.In s.heap
  nm : s.heap.Ns mainGlobals mg
  nb : s.heap.Ns builtinsNs mb
  bb : ∀ x : Str, x ≠ "__name__" → mb x = bootBuiltins x
  lim : s.heap.NoLimit
  gens : s.gens = #[]
  obj : s.heap.get? a = some { cls := .type "list", data := .seq vs.toArray }
  hi : IntsAre vs ns
  len : ns.length ≤ sizeLine
/-- the abstract heap there: at most the script -/
structure Start (P : Program) (w : World) (K : PySem.W.Frag) (s : Shared) (a : Addr) (ns : List Int) (H : Hp) : Prop where
  only : Only H
  sq : SqL K H a (ns.map V.int)
  ok : HOk P w H s.heap
  at_ : ∀ b, b ≠ a → H b = none
  out : H a ≠ none → K.lookup a = none
variable {P : Program} {w : World} {K : PySem.W.Frag} {mg mb : Str → Option Value} {s : Shared} {a : Addr} {vs : List Value} {ns : List Int} {H : Hp}
theorem Before.start (B : Before P w K mg mb s a vs ns) : ∃ H, Start P w K s a ns H := by
  have hv := vals_ints B.hi
  cases q : K.lookup a with
  | some o =>
    have e := (B.kin a o q).symm.trans B.obj
    injection e with e
    subst e
    have lv := B.hi.length
    have sz : vs.toArray.size ≤ sizeLine := by
      have := B.len
      rw [List.size_toArray]
      omega
    exact ⟨fun _ => none, fun _ => Or.inl rfl, Or.inr ⟨_, _, _, q, rfl, rfl, rfl, sz, hv⟩, fun b u z => by injection z, fun _ _ => rfl, fun z => (z rfl).elim⟩
  | none =>
    let o : Obj := { cls := .type "list", data := .seq vs.toArray }
    have hs : upd (fun _ => none) a (.frz o (.lst (ns.map V.int))) a = some (.frz o (.lst (ns.map V.int))) := upd_same
    refine ⟨upd (fun _ => none) a (.frz o (.lst (ns.map V.int))), fun b => ?_, Or.inl (Or.inr ⟨o, hs⟩), fun b u z => ?_, fun b hb => upd_ne hb, fun _ => q⟩
    · by_cases hb : b = a
      · subst hb
        exact Or.inr ⟨_, _, hs⟩
      · exact Or.inl (upd_ne hb)
    · by_cases hb : b = a
      · subst hb
        injection hs.symm.trans z with z
        subst z
        refine ⟨B.obj, ?_, vs, _, hv, B.obj⟩
        rw [List.length_map]
        exact B.len
      · rw [upd_ne hb] at z
        injection z
theorem Start.env (S : Start P w K s a ns H) (B : Before P w K mg mb s a vs ns) : K.In (hidT s.heap H) ∧ (hidT s.heap H).Ns mainGlobals mg ∧ Env0 P w K mg (hidT s.heap H) callerA [] s H := by
  have plain : ∀ {b : Addr} {o : Obj} {es : Array DictEntry} {n : Nat}, s.heap.get? b = some o → o.data = .dict es n → (hidT s.heap H).get? b = some o := fun {b o es n} e d => by
    by_cases hb : b = a
    · subst hb
      injection e.symm.trans B.obj with e
      subst e
      injection d
    · exact hidT_get e (S.at_ b hb)
  have nsOf : ∀ {b : Addr} {m : Str → Option Value}, s.heap.Ns b m → (hidT s.heap H).Ns b m := fun {b m} z => by
    obtain ⟨o, es, n, e, d, r⟩ := z
    exact ⟨o, es, n, plain e d, d, r⟩
  have kb : K.In (hidT s.heap H) := fun b o e => by
    refine hidT_get (B.kin b o e) ?_
    by_cases hb : b = a
    · subst hb
      refine Classical.byContradiction fun z => ?_
      have := S.out z
      rw [e] at this
      injection this
    · exact S.at_ b hb
  obtain ⟨mc, l1, l2⟩ := B.lim
  refine ⟨kb, nsOf B.nm, ⟨rfl, ⟨kb, nsOf B.nm, ⟨mb, nsOf B.nb, B.bb⟩, ⟨mc, nsOf l1, l2⟩⟩, fun _ _ e => of_hidT e, Nat.le_of_eq (hidT_size _ _), trivial, fun b hb => ?_, S.ok, .of_eq B.gens⟩⟩
  exact absurd (show b ∈ ([] : List Addr) from hb) List.not_mem_nil
theorem Start.end_ (S : Start P w K s a ns H) {v : V} {u : Value} {H' : Hp} {h' : Heap} (un : Un (frs []) [] H H' s.heap h') (ok : HOk P w H' h') : OldK s.heap h' := OldK.of_keep fun b o e => by
  rcases S.only b with z | ⟨ob, xs, z⟩
  · exact un.keep b o e z (fun q => by cases q) (by simp)
  · obtain ⟨e1, _⟩ := S.ok b _ z
    obtain ⟨e2, _⟩ := ok b _ (un.frzs b ob _ z)
    injection e.symm.trans e1 with e
    subst e
    exact e2
theorem cx_none {outer : List Env} {e : Value} {s' : Shared} (h : L2.CX P w outer H s L2.E0 e s') : False := by
  obtain ⟨_, _, _, _, _, _, _, _, _, _, _, _, z⟩ := h
  exact z
theorem law_callG {k : Nat} {fa : Addr} {fd : FuncData} {x : Str} {sp : Sp} (B : Before P w K mg mb s a vs ns) (hr : Room k callerA) (F : ∀ base : Heap, K.In base → base.Ns mainGlobals mg → FnG P w K mg base (L2.CX P w) k fa fd [x] sp)
    (hb : ∀ (s : Shared) (u : Value), BindsTo s fd ⟨[u], []⟩ [(x, u)]) (hsp : ∀ H : Hp, Only H → SqL K H a (ns.map V.int) → sp [.ref a] H (fun v _ => v = .bl true) L2.E0) :
    codeAny (model P w) callerA (.call (.ref fa) ⟨[.ref a], []⟩) (fun r s' => r = .ok (.ret (.bool true)) ∧ OldK s.heap s'.heap ∧ s'.os = s.os ∧ AllBare s'.gens) s := by
  obtain ⟨H, S⟩ := B.start
  obtain ⟨kb, nb, e0⟩ := S.env B
  refine codeAny_mono ((F _ kb nb).go callerA rfl hr [] s H ⟨[.ref a], []⟩ [.ref a] [.ref a] _ _ e0 (hb s (.ref a)) (.cons rfl .nil) (hsp H S.only S.sq)) fun r s' h => ?_
  match r, h with
  | .error e, h => exact (cx_none h).elim
  | .ok (.ret u), ⟨v, H', os, bare, un, ok, rv, q⟩ =>
    subst q
    have rv' : u = Value.bool true := rv
    subst rv'
    exact ⟨rfl, S.end_ (v := .non) (u := .none) un ok, os, bare⟩
  | .ok .next, h => cases h
  | .ok .brk, h => cases h
  | .ok .cont, h => cases h
/-- a law's row, from its def's promise -/
theorem walkG {l : PySem.W.OpenLaw} {n k : Nat} {q : Program} {loose : List Str} {XP : (Str → Option Value) → Heap → Prop} {YP : World → Heap → Prop} {d : DefRec} {x : Str}
    (hn : l.most = some n) (hn2 : n ≤ sizeLine) (hdf : d.params.defaults = []) (hr : Room k callerA)
    (F : ∀ (w : World) (mg : Str → Option Value) (fa : Addr) (h : Heap), YP w h → h.Ns mainGlobals mg → mg d.name = some (.ref fa) →
      ∃ (K : PySem.W.Frag) (fd : FuncData) (sp : Sp), K.In h ∧ (∀ (s : Shared) (u : Value), BindsTo s fd ⟨[u], []⟩ [(x, u)]) ∧
        (∀ (H : Hp) (a : Addr) (ns : List Int), ns.length ≤ n → (∀ z ∈ ns, Builtin.Int.intBits z ≤ 1048576) → Only H → SqL K H a (ns.map V.int) → sp [.ref a] H (fun v _ => v = .bl true) L2.E0) ∧
        ∀ base : Heap, K.In base → base.Ns mainGlobals mg → FnG l.prog w K mg base (L2.CX l.prog w) k fa fd [x] sp) :
    PySem.W.WalkO q loose XP YP l.row.toRowW d [] (fun f vs => PySem.call f vs) := by
  refine Att.attach_callB hn hdf fun w s₀ s₁ mg mb fa o pm cd doc a vs ns G Y _ _ _ hmg hobj hints hlen hbits hg => ?_
  obtain ⟨K, fd, sp, kx, hb, hsp, hF⟩ := F w mg fa _ Y G.T.g hmg
  exact law_callG ⟨kx, G.T.g, G.T.b, G.T.builtins, G.T.nolimit, hg, hobj, hints, Nat.le_trans hlen hn2⟩ hr hF hb fun H hO hS => hsp H a ns hlen hbits hO hS
/-! ### what the head tells -/
theorem cst_of {K : PySem.W.Frag} {h : Heap} {mg : Str → Option Value} {x : Str} {vs : List He.Dv} (X : K.In h) (G : h.Ns mainGlobals mg) (c : (He.Fa.glo x).ok K = true) (t : He.tupB K x vs = true) : Cst K mg x (vs.map (He.Dv.v K)) := ⟨_, He.glo_ok X G c, He.tupB_ok t⟩
/-- a def, told by the head -/
theorem at_of {K : PySem.W.Frag} {h : Heap} {mg : Str → Option Value} {x : Str} {st : Stmt} {ps : List Str} {fd : FuncData} (X : K.In h) (G : h.Ns mainGlobals mg) (c : (He.Fa.glo x).ok K = true) (F : FunD K x x (defArgs st) (defBody st) (defScope st) [] [] (He.fAd K (x, none)) fd)
    (b : ∀ (kV doc pm : Value) (an : Option Addr) (cdv ct : Value) (us : List Value), us.length = ps.length → bindArgs (PySem.W.fnOf x x (defArgs st) (defBody st) (defScope st) .none kV doc pm an cdv ct) ⟨us, []⟩ = pure (ps.zip us)) : At K mg x x st ps (He.fAd K (x, none)) fd :=
  ⟨F, He.glo_ok X G c, FunD.bindsN F b⟩
end Rm
/-! Rm, part X: own errors whose __init__ says super().__init__(text); self.f = x. -/
namespace Rm
open PySem PySem.Spec L2
open PyProof.Rows hiding St
/-- what the head tells of such a class C over others over ValueError, its __init__ at fI -/
structure ErrC (P : Program) (K : PySem.W.Frag) (C fI cda cc : Addr) (F : NdefX.NF) (x : Str) : Prop where
  o : OexC K C
  lk : ∃ oc od osl kV doc pm an ct, K.lookup fI = some ⟨oc, od, .func (PySem.W.fnX F.name F.qual F.params F.body F.scope F.cl .none kV doc pm an (.ref F.c) ct), osl⟩
  cd : PySem.W.codeIn K (.ref F.c) F.qual = true
  code : ∃ ccl cdd vs ccs file tf, K.lookup F.c = some ⟨ccl, cdd, .fields vs, ccs⟩ ∧ vs[2]? = some (.str file tf) ∧ ((P.main.file : Str) == file) = true
  cl : F.cl = [(("__class__" : Str), cc)]
  cell : ∃ a b d, K.lookup cc = some ⟨a, b, .cell (some (.ref C)), d⟩
  cls : ∃ cd, PySem.W.clsIn K C = some cd
  self : PySem.W.mroIn K C (.ref C) = some true
  sup : PySem.W.nsIn K mainGlobals "super" = some none
  ini : PySem.W.ks_superIn K C C "__init__" = some (some (.builtin "ValueError.__init__"))
  ve : PySem.W.subIn K (.ref C) (.type "ValueError") = some true
  st : PySem.W.nsIn K cStatics "thirdparty.any" = some none
  xi : PySem.W.excInitIn K C [.type "ValueError", .type "Exception", .type "BaseException", .type "object"] "ValueError.__new__" = true
/-- the promise of such an __init__ -/
def spErr (C : Addr) (f : Str) : Sp := fun vs H Q _ => ∃ a v, vs = [.ref a, v] ∧ H a = some (exo a C none) ∧ ∀ d, H d = none → d ≠ a → Q .non (upd (upd H d (exd d [(f, v)])) a (exo a C (some d)))
/-- super().__init__(text), run: nothing of it is told -/
theorem sup_call {X : Cx} {pins : List (Addr × Obj)} {σ : St} {H : Hp} {s : Shared} {C a u : Addr} {rest : List Value} {A : Around} {E : Value → Shared → Prop} {Q : Value → Shared → Prop} (T : OexC X.K C)
    (xi : PySem.W.excInitIn X.K C [.type "ValueError", .type "Exception", .type "BaseException", .type "object"] "ValueError.__new__" = true) (I : Inv X pins σ H s) (e : H a = some (exo a C none)) (hu : s.heap.get? u = some (PySem.W.kxs_mw "ValueError.__init__" a))
    (hl : rest.length ≤ sizeLine) (h : ∀ s', Inv X pins σ H s' → Q .none s') : wpAny (model X.prog X.w) A (call (.ref u) rest) Q E s := by
  obtain ⟨nm, N', qn, bs, bm, hdct, sn, sub, ab, col, dd, k0, k1, k2, k3, k5, hC, hT⟩ := PySem.W.excInit_of I.kIn xi
  obtain ⟨t1, ho⟩ := exo_at I.hok e
  obtain ⟨hp, g, d, t, os⟩ := s
  have eu : upd H a (exo a C none) = H := by
    funext b
    by_cases hb : b = a
    · subst hb
      exact upd_same.trans e.symm
    · exact upd_ne hb
  refine wpAny_call <| codeAny_of_tree ?_
  show wpAny _ A.in1 (callAny (.ref u) { pos := rest, kw := [] }) _ _ _
  unfold callAny
  refine wpAny_bind <| wpAny_load hu ?_
  have k1' : (Value.type "method-wrapper" == Value.type "method" || Value.type "method-wrapper" == Value.type "builtin_function_or_method" || Value.type "method-wrapper" == Value.type "method-wrapper") = true := by decide
  simp only [PySem.W.kxs_mw, k1', if_true]
  refine PySem.W.KFB.if_so (by decide) <| wpAny_bind <| PySem.W.check_bound_init PySem.F.excBase_ValueError.toExcCallFacts hC ho rfl ?_
  refine wpAny_bind <| wpAny_pure <| wpAny_pure ⟨plainId_quiet PySem.F.excBase_ValueError.init.plain _, codeAny_builtin PySem.F.excBase_ValueError.initEntry ?_⟩
  refine PySem.W.exc_init_tree (cls := .ref C) (t0 := t1) (dv := none) (c2 := .none) (c3 := .none) (b4 := .bool false) ho hl fun h' k hx _ => ?_
  have J := I.write (t' := t) (x := a) (e := a) (o := exo a C none) (by rw [e]; trivial) (Or.inl rfl) k ⟨_, hx⟩ (exo_ok hx)
  rw [eu] at J
  exact h _ J
section
variable {P : Program} {w : World} {K : PySem.W.Frag} {mg : Str → Option Value} {base : Heap}
/-- such an __init__ keeps its promise -/
theorem boot_super : bootBuiltins "super" = some (.type "super") := by decide +kernel
theorem ok_err {cx : CXT} {C fI cda cc : Addr} {F : NdefX.NF} {x f : Str} {fd : FuncData} {m : Str} {j : Nat} {p0 p1 p2 p3 p4 p5 p6 p7 p8 p9 : Pos} {ar : Arg} (T : ErrC P K C fI cda cc F x) (hfd : ∃ oc od osl, K.lookup fI = some ⟨oc, od, .func fd, osl⟩)
    (S : NdefX.NScope ["self", x, "__class__"] ["self", x] ["__class__"] F.scope) (hks : F.scope.names.lookup ("super" : Str) = some .globalImplicit)
    (hb : F.body = [.Expr (.Call (.Attribute (.Call (.Name "super" p0) [] [] p1) "__init__" p2) [.Constant (.str m) j p3] [] p4) p5, .Assign [.Attribute (.Name "self" p6) f p7] (.Name x p8) p9])
    (hp : (F.params.posonlyargs ++ F.params.args).head? = some ar) (har : ar.arg = "self") (hno : PySem.W.findIn K (.ref C) f = some none) (htop : (P.main.scope.names.lookup ("super" : Str)).isSome = false) {pl : Addr → Sem Bool} (hx1 : (x == ("__debug__" : Str)) = false) (hx2 : (x == ("__classdict__" : Str)) = false)
    (hev : ∀ L : Addr, eval (.Call (.Attribute (.Call (.Name "super" p0) [] [] p1) "__init__" p2) [.Constant (.str m) j p3] [] p4) (NdefX.envF F fI L) = (do
      let ov ← attributeBase (.Call (.Name "super" p0) [] [] p1) "__init__" (NdefX.envF F fI L) (eval (.Call (.Name "super" p0) [] [] p1) (NdefX.envF F fI L))
      standAt p2.atName
      let (g, first) ← holding [ov] (getMethod ov "__init__" (pl L))
      callWith p4 g first (backTo p4 (starEach [.Constant (.str m) j p3] (NdefX.envF F fI L))) []))
    (hsw : ∀ L : Addr, swapsWith (.Call (.Attribute (.Call (.Name "super" p0) [] [] p1) "__init__" p2) [.Constant (.str m) j p3] [] p4) none p5.line (NdefX.envF F fI L) = pure false)
    (hin : ∀ L : Addr, interactive (NdefX.envF F fI L) = false)
    (hsw2 : ∀ L : Addr, swapsWith (.Name x p8) (some (.Attribute (.Name "self" p6) f p7)) p9.line (NdefX.envF F fI L) = pure false) :
    FnOk P w K mg base cx 1 fI fd ["self", x] (spErr C f) := by
  obtain ⟨oc0, od0, osl0, lk0⟩ := hfd
  obtain ⟨oc, od, osl, kV, doc, pm, an, ct, lk⟩ := T.lk
  have e1 := lk.symm.trans lk0
  injection e1 with e1
  injection e1 with _ _ e1 _
  injection e1 with e1
  subst e1
  refine ⟨fun vs H Q E h => by obtain ⟨_, _, rfl, _⟩ := h; rfl, fun A outer s H args us vs Q E hr e0 hbd r hsp => ?_⟩
  obtain ⟨a, v, rfl, ha, k⟩ := hsp
  cases r with
  | @cons _ u0 _ ur r0 r' =>
  cases r' with
  | @cons _ u1 _ ur r1 r' =>
  cases r'
  obtain rfl : u0 = Value.ref a := r0
  have kx : K.In s.heap := e0.mod.kin.keeps fun b o e => (e0.bs b o e).1
  have lim : s.heap.NoLimit := e0.mod.nolimit.keeps fun b o e => (e0.bs b o e).1
  obtain ⟨c0, c1, c3, lkc⟩ := T.cell
  have hcc : H cc = none := (e0.bs _ _ (e0.mod.kin _ _ lkc)).2
  have CA : NdefX.CellsAt F.cl ["__class__"] [some (.ref C)] s.heap H := by
    rw [T.cl]
    refine ⟨rfl, fun y c e => ?_, fun x y c h1 h2 => ?_, fun i y h => ?_⟩
    · have : c = cc := by
        simp only [List.lookup] at e
        split at e
        · injection e with e; exact e.symm
        · cases e
      subst this
      exact ⟨hcc, _, _, kx _ _ lkc, rfl⟩
    · simp only [List.lookup] at h1 h2
      split at h1
      · rename_i e1
        split at h2
        · rename_i e2
          exact (eq_of_beq e1).trans (eq_of_beq e2).symm
        · cases h2
      · cases h1
    · match i, h with
      | 0, h =>
        injection h with h
        subst h
        refine ⟨cc, by simp [List.lookup], fun v hv => ?_⟩
        injection hv with hv
        injection hv with hv
        subst hv
        exact ⟨.ref C, rfl, _, kx _ _ lkc, rfl⟩
      | i + 1, h => cases h
  refine codeAny_call_function hr.depth (kx _ _ lk) rfl S.co S.gen rfl (PySem.W.codeRec_of kx T.cd) (hbd _ _ _ _ ?_)
  refine wpAny_newFunctionEnv S.nocell (fun y hy => S.par y.1 (List.of_mem_zip hy).1) (fun h₁ hns hsb => ⟨lim.fresh _ hsb, ?_⟩) S.kind
  have kp : ∀ b o, s.heap.get? b = some o → h₁.get? b = some o := fun b o e => hsb.extBut b o (Nat.ne_of_lt (Heap.lt_size e)) (Heap.get?_push_of_some _ e)
  have I : L2.Inv (NdefX.ncx cx P w K mg base [("self" : Str), x, "__class__"] F fI A outer s H E) [] (NdefX.startF [("self" : Str), x, "__class__"] [.ref a, v] [some (.ref C)]) H { s with heap := h₁, toks := s.toks + ([("self" : Str), x].zip [Value.ref a, u1]).length } :=
    NdefX.inv_startN S hr.hd e0 rfl (.cons (show RelV (.ref a) (.ref a) from rfl) (.cons r1 .nil)) CA hns kp
  show codeAny _ _ (.func F.body (NdefX.envF F fI s.heap.objs.size)) _ _
  rw [hb]
  refine PySem.ks_codeAny_funcAt ?_
  refine PySem.ks_wpAt_execs_cons (PySem.ks_wpAt_Expr_any (PySem.ks_wpAt_MethodCall (pl := pl s.heap.objs.size) ?_ (hev _)) (hin _) (hsw _))
  obtain ⟨ccl, cdd, cvs, ccs, file, tf, lkd, hvs, hfile⟩ := T.code
  obtain ⟨cdC, hcd⟩ := T.cls
  have bk : ∀ b o, K.lookup b = some o → h₁.get? b = some o := fun b o e => kp _ _ (kx _ _ e)
  obtain ⟨oC, hC1, hC2⟩ : ∃ oC, h₁.get? C = some oC ∧ oC.data = .cls cdC := by
    unfold PySem.W.clsIn at hcd
    split at hcd
    · rename_i c d cd' sl ho
      injection hcd with hcd
      subst hcd
      exact ⟨_, bk _ _ ho, rfl⟩
    · cases hcd
  refine PySem.ks_wpAt_super_base (env := NdefX.envF F fI s.heap.objs.size) hks (S.frk _ (List.mem_singleton.mpr rfl)) (by decide) rfl (bk _ _ lk) rfl hp rfl (bk _ _ lkd) rfl hvs hfile htop ?_
  have hsl : mg "super" = none := PySem.W.mg_none_of e0.mod.kin e0.mod.glob T.sup
  obtain ⟨mb, hb1, hb2⟩ := e0.mod.blt
  have bb : ∀ b o, base.get? b = some o → h₁.get? b = some o := fun b o e => kp _ _ (e0.bs b o e).1
  refine PySem.W.ks_loadName_global S.kind hks (Calls.loadGlobal_builtin (e0.mod.glob.keeps bb) hsl (hb1.keeps bb) ((hb2 _ (by decide)).trans boot_super) ⟨rfl, ?_⟩)
  refine wpAny_loadName_free S.kind (S.frk _ (List.mem_singleton.mpr rfl)) (c := cc) (by show F.cl.lookup _ = _; rw [T.cl]; simp [List.lookup]) ⟨_, bk _ _ lkc, rfl⟩ ?_
  rw [har]
  refine wpAny_loadName_local S.kind (S.par _ List.mem_cons_self) hns (v := .ref a) ?_ ?_
  · have nd : [("self" : Str), x].Nodup := List.Nodup.sublist (List.take_sublist 2 [("self" : Str), x, "__class__"]) S.nd
    exact NdefX.zip_look (i := 0) nd rfl rfl
  refine PySem.ks_wpAny_isType_cls hC1 hC2 ⟨rfl, ?_⟩
  obtain ⟨t1, hoa⟩ := exo_at I.hok ha
  refine PySem.ks_wpAny_call_super hC1 hC2 hoa rfl (fun c e => by cases e) (PySem.W.looks_mroIn I.kIn T.self) fun h2 hso k2 => ?_
  have I2 := I.kept (t' := s.toks + ([("self" : Str), x].zip [Value.ref a, u1]).length) k2
  obtain ⟨lmro, hmro1, hmro2⟩ : ∃ l, cdC.mro = l ∧ PySem.W.alongIn K "__init__" ((l.dropWhile (· != .ref C)).drop 1) = some (some (.builtin "ValueError.__init__")) := by
    have z := T.ini
    unfold PySem.W.ks_superIn at z
    rw [hcd] at z
    exact ⟨_, rfl, z⟩
  have hne : a ≠ C := fun z => by
    rw [z, hC1] at hoa
    injection hoa with hoa
    rw [hoa] at hC2
    cases hC2
  refine PySem.W.kxs_getMethod PySem.W.kxs_ValueError hso (PySem.W.looks_opaque I2.kIn T.st) (l₀ := lmro) (by rw [← hmro1]; exact fun A Q E s k q => wpAny_bind ((PySem.W.looks_clsIn I2.kIn hcd) A _ E s k (wpAny_pure q))) rfl I2.kIn hmro2
    ((show PySem.W.InstAt h2 a ({ cls := .ref C, dict := none, data := .fields #[.ref t1, .none, .none, .none, .bool false, .none] } : Obj) C none from ⟨k2 _ _ hoa, rfl, rfl, trivial⟩).type.andThen (PySem.W.looks_subIn I2.kIn T.ve)) hne (by decide) ?_
  have hmw : (h2.push (PySem.W.kxs_mw "ValueError.__init__" a)).get? h2.objs.size = some (PySem.W.kxs_mw "ValueError.__init__" a) := Heap.get?_push_at rfl rfl
  have I3 := I2.kept (t' := s.toks + ([("self" : Str), x].zip [Value.ref a, u1]).length + 1) (h' := h2.push (PySem.W.kxs_mw "ValueError.__init__" a)) (fun b o e => Heap.get?_push_of_some _ e)
  have nfree : H h2.objs.size = none := I2.hok.fresh (Nat.le_refl _)
  have I4 := I3.pins_of (pins' := [(h2.objs.size, PySem.W.kxs_mw "ValueError.__init__" a)]) fun p hp => by
    rw [List.mem_singleton.mp hp]
    exact ⟨hmw, nfree, (Nat.ne_of_lt I2.lt).symm, I2.nofs (Nat.le_refl _), fun v z => by cases z⟩
  refine PySem.W.kxs_callWith (i := "ValueError.__init__") (x := a) rfl (Calls.evalArgs_plain ?_)
  refine thn ((pa_cons (X := NdefX.ncx cx P w K mg base [("self" : Str), x, "__class__"] F fI A outer s H E) (pe_str (x := m) (j := j) (pos := p3)) pa_nil).run p4 _ _ _ H (fun vs H1 => H1 = H ∧ vs.length ≤ 1000) I4 ⟨rfl, by show 1 ≤ 1000; decide⟩) fun us s1 z => ?_
  obtain ⟨vs, H1, I5, r5, rfl, l5⟩ := z
  have hu5 := (I5.pin _ (List.mem_append_right _ (List.mem_singleton.mpr rfl))).1
  refine ⟨hu5, sup_call T.o T.xi I5 ha hu5 (by show us.length ≤ sizeLine; rw [← r5.length]; exact Nat.le_trans l5 (by decide)) fun s6 I6 => ?_⟩
  refine ks_wpAt_execs_cons (wpAt_of_wpAny ?_)
  have hst := (ps_ost (X := NdefX.ncx cx P w K mg base [("self" : Str), x, "__class__"] F fI A outer s H1 E) (f := f) (p' := p7) (pos := p9) (pn 0 (pos := p6) rfl (Or.inl (S.par _ List.mem_cons_self)) (by decide) (by decide)) (pn 1 (pos := p8) rfl (Or.inl (S.par _ (List.mem_cons_of_mem _ List.mem_cons_self))) hx1 hx2) (hsw2 _)).run
    _ s6 _ H1 { nx := fun _ H' => Q .non H', rt := fun _ _ => False, bk := fun _ _ => False, ct := fun _ _ => False } I6 ⟨a, C, rfl, T.o, hno, Or.inl ⟨ha, fun dx hd hn => k dx hd hn⟩⟩
  refine wpAny_mono hst (fun fl s' z => ?_) (fun e s' z => z)
  cases fl with
  | next =>
    obtain ⟨σ', H', J, q⟩ := z
    refine wpAt_of_wpAny ?_
    rw [execs_nil]
    exact wpAny_pure ⟨V.non, H', J.os, J.bare, J.base, J.hok, rfl, q⟩
  | ret u => obtain ⟨_, _, _, _, _, q⟩ := z; exact q.elim
  | brk => obtain ⟨_, _, _, q⟩ := z; exact q.elim
  | cont => obtain ⟨_, _, _, q⟩ := z; exact q.elim
end
end Rm
/-! Rm, part M: own classes: fields, methods, constructors, properties, errors. -/
namespace Rm
open PySem PySem.Spec L2
open PyProof.Rows hiding St
/-- C(e, ..) -/
def tCS (C : Addr) (sp : Sp) (W : WX) (t : TA) : TE := fun σ H Q => t σ H fun vs H1 => ∀ x dx, H1 x = none → H1 dx = none → dx ≠ x →
  sp (.ref x :: vs) (upd (upd H1 dx (.own x)) x (.ins C dx [])) (fun v H2 => v = .non ∧ Q (.ref x) H2) (WE W σ)
/-! ### errors -/
section
variable (P : Program) (w : World) (K : PySem.W.Frag) (mg : Str → Option Value) (base : Heap)
/-- an own error x at C, its one field f -/
structure EDef (x : Str) (C : Addr) (f : Str) : Prop where
  ex : ∃ (fI : Addr) (fd : FuncData) (y : Str), mg x = some (.ref C) ∧ OexC K C ∧ PySem.W.findIn K (.ref C) "__init__" = some (some (.ref fI)) ∧ PySem.W.typeIn K (.ref fI) = some (.type "function") ∧ Binds K fd ["self", y] [] ∧
    FnOk P w K mg base CX0 1 fI fd ["self", y] (spErr C f)
  xf : XfC K C
  no : PySem.W.findIn K (.ref C) f = some none
end
/-- C(v) made to be raised -/
def kErr (C : Addr) (f : Str) (v : V) (H1 : Hp) (W : XK) : Prop := [v].length ≤ 1000 ∧ ∀ a, H1 a = none → spErr C f (.ref a :: ([v] ++ [])) (upd H1 a (exo a C none))
  (fun u H2 => u = .non ∧ ∃ (d : Addr) (fs : List (Str × V)), H2 a = some (exo a C (some d)) ∧ H2 d = some (exd d fs) ∧ H1 d = none ∧ W (.ref C) (some d) (upd (del H2 a) d (.xd fs))) (fun _ _ _ => False)
def tErr (C : Addr) (f : Str) (te : TE) : St → Hp → XK → Prop := fun σ H W => te σ H fun v H1 => kErr C f v H1 W
theorem kErr_of {C : Addr} {f : Str} {v : V} {H1 : Hp} {W : XK} (h : ∀ d, H1 d = none → W (.ref C) (some d) (upd H1 d (.xd [(f, v)]))) : kErr C f v H1 W := by
  refine ⟨by show 1 ≤ 1000; decide, fun a ha => ⟨a, v, rfl, upd_same, fun d hd hda => ⟨rfl, d, [(f, v)], upd_same, ?_, ?_, ?_⟩⟩⟩
  · rw [upd_ne hda, upd_same]
  · rwa [upd_ne hda] at hd
  · rw [upd_ne hda] at hd
    have e : upd (del (upd (upd (upd H1 a (exo a C none)) d (exd d [(f, v)])) a (exo a C (some d))) a) d (.xd [(f, v)]) = upd H1 d (.xd [(f, v)]) := by
      funext b
      by_cases hb : b = d
      · rw [hb, upd_same, upd_same]
      · rw [upd_ne hb, upd_ne hb]
        by_cases hba : b = a
        · rw [hba, del_same, ha]
        · rw [del_ne hba, upd_ne hba, upd_ne hb, upd_ne hba]
    rw [e]
    exact h d hd
section
variable {X : Cx} {x f : Str} {p p' pos : Pos} {e : Expr} {te : TE} {C : Addr} {W : WX}
theorem pmk_err (D : EDef X.prog X.w X.K X.mg X.base x C f) (hr : Room 2 X.A) (he : PE X e te) (hg : Gl X x := by rfl) (hdb : (x == ("__debug__" : Str)) = false := by decide) (hst : starEach [e] X.env = (false, eval e X.env) :: starEach [] X.env := by rfl)
    (hpl : (backTo pos (starEach [] X.env)).any (·.1) = false := by rfl) : PMk X (.Call (.Name x p) [e] [] pos) (tErr C f te) := by
  obtain ⟨fI, fd, y, hm, T, hi, ht, hb, F⟩ := D.ex
  exact pmk_oex (ps := ["self", y]) (pos := pos) (p := p) T hi ht F hr hb .nil pass0 hg hm (pa_cons he pa_nil hst) hdb hst hpl
/-- raise C(e) -/
theorem ps_err (D : EDef X.prog X.w X.K X.mg X.base x C f) (hc : X.calm = true) (hr : Room 2 X.A) (tk : Takes X W) (he : PE X e te) (hg : Gl X x := by rfl) (hdb : (x == ("__debug__" : Str)) = false := by decide) (hst : starEach [e] X.env = (false, eval e X.env) :: starEach [] X.env := by rfl)
    (hpl : (backTo pos (starEach [] X.env)).any (·.1) = false := by rfl) : PS X (.Raise (some (.Call (.Name x p) [e] [] pos)) none p') (fun _ σ H => tErr C f te σ H fun cls d H' => W cls d σ H') := ps_raise hc tk (pmk_err D hr he hg hdb hst hpl)
end
end Rm
/-! Rm, part N: what a head tells of own errors. -/
namespace Rm
open PySem PySem.Spec L2
open PyProof.Rows hiding St
abbrev veMro : List Value := [.type "ValueError", .type "Exception", .type "BaseException", .type "object"]
def errClsB (K : PySem.W.Frag) (C : Addr) : Bool := match K.lookup C with
  | some ⟨.type t, _, .cls cd, sl⟩ => decide (t = "type") && (match cd.mro, sl.toList with
    | .ref C' :: bm, [_, _, _, _, some (.builtin n), _] => decide (C' = C) && (decide (n = "ValueError.__new__") && (!cd.hasDel && (cd.hasDict && PySem.HandSPX.refsVE bm)))
    | _, _ => false)
  | _ => false
theorem errCls_of {K : PySem.W.Frag} {C : Addr} (h : errClsB K C = true) :
    ∃ nm q N bs bm sn sub ab col dd k0 k1 k2 k3 k5, K.lookup C = some (excClassObj nm q C N bs bm true sn sub ab col dd k0 k1 k2 k3 k5 "ValueError.__new__") ∧ PySem.HandSPX.refsVE bm = true := by
  unfold errClsB at h
  split at h
  · rename_i t dd cd sl ho
    obtain ⟨h0, hh⟩ := Bool.and_eq_true_iff.mp h
    clear h
    have h0 := of_decide_eq_true h0
    subst h0
    split at hh
    · rename_i C' bm k0 k1 k2 k3 n k5 hm hs
      obtain ⟨h1, hh⟩ := Bool.and_eq_true_iff.mp hh
      obtain ⟨h2, hh⟩ := Bool.and_eq_true_iff.mp hh
      obtain ⟨h3, hh⟩ := Bool.and_eq_true_iff.mp hh
      obtain ⟨h4, h5⟩ := Bool.and_eq_true_iff.mp hh
      have h1 := of_decide_eq_true h1
      have h2 := of_decide_eq_true h2
      rw [Bool.not_eq_true'] at h3
      obtain ⟨nm, bs, mro, ns, qn, hd, sn, sub, ab, col, del⟩ := cd
      dsimp only at hm h3 h4
      obtain ⟨l⟩ := sl
      dsimp only at hs
      subst h1 h2 h3 h4 hm hs
      exact ⟨nm, qn, ns, bs, bm, sn, sub, ab, col, dd, k0, k1, k2, k3, k5, ho, h5⟩
    · cases hh
  · cases h
/-- an own error of the text: its name, field, parameter, its __init__ as it stands -/
structure ErrD where
  x : Str
  f : Str
  y : Str
  qual : Str
  st : Stmt
abbrev FnE : Type := Option (Str × Str × Arguments × FuncBody × Scope × Addr × List Str × Addr)
def ErrD.obs (K : PySem.W.Frag) (e : ErrD) : FnE := match K.lookup (He.ma K (He.ga K e.x) "__init__") with
  | some ⟨_, _, .func fd, _⟩ => some (fd.name, fd.qualname, fd.params, fd.body, fd.scope, fd.globals, fd.closure.map (·.1), fd.builtins)
  | _ => none
def ErrD.val (e : ErrD) : FnE := some ("__init__", e.qual, defArgs e.st, .stmts (defBody e.st), defScope e.st, mainGlobals, ["__class__"], builtinsNs)
def errFnB (P : Program) (K : PySem.W.Frag) (C fI : Addr) (qual : Str) : Bool := match K.lookup fI with
  | some ⟨_, _, .func fd, _⟩ => (match fd.code, fd.defaults, fd.closure with
    | .ref c, .none, [(_, cc)] => PySem.W.codeIn K (.ref c) qual && ((match K.lookup c with
      | some ⟨_, _, .fields vs, _⟩ => (match (vs[2]? : Option Value) with
        | some (.str file _) => (P.main.file : Str) == file
        | _ => false)
      | _ => false) && (match K.lookup cc with
      | some ⟨_, _, .cell (some (.ref C')), _⟩ => decide (C' = C)
      | _ => false))
    | _, _, _ => false)
  | _ => false
def ErrD.ok (P : Program) (K : PySem.W.Frag) (e : ErrD) : Bool :=
  He.eqO (PySem.W.nsIn K mainGlobals e.x) (some (some (.ref (He.ga K e.x)))) && (errClsB K (He.ga K e.x) && (errFnB P K (He.ga K e.x) (He.ma K (He.ga K e.x) "__init__") e.qual &&
  (He.eqO (PySem.W.findIn K (.ref (He.ga K e.x)) "__setattr__") (some (some (.builtin "object.__setattr__"))) && (decide (PySem.W.subIn K (.ref (He.ga K e.x)) (.type "BaseException") = some true) && (decide (PySem.W.typeIn K (.ref (He.ga K e.x)) = some (.type "type")) &&
  (PySem.W.keepIn K (.ref (He.ga K e.x)) && ((PySem.W.clsIn K (He.ga K e.x)).isSome && (decide (PySem.W.mroIn K (He.ga K e.x) (.ref (He.ga K e.x)) = some true) && (He.eqO (PySem.W.nsIn K mainGlobals "super") (some none) &&
  (He.eqO (PySem.W.ks_superIn K (He.ga K e.x) (He.ga K e.x) "__init__") (some (some (.builtin "ValueError.__init__"))) && (decide (PySem.W.subIn K (.ref (He.ga K e.x)) (.type "ValueError") = some true) && (He.eqO (PySem.W.nsIn K cStatics "thirdparty.any") (some none) &&
  (PySem.W.excInitIn K (He.ga K e.x) veMro "ValueError.__new__" && (He.eqO (PySem.W.findIn K (.ref (He.ga K e.x)) "__init__") (some (some (.ref (He.ma K (He.ga K e.x) "__init__")))) && (decide (PySem.W.typeIn K (.ref (He.ma K (He.ga K e.x) "__init__")) = some (.type "function")) &&
  (xfB K (He.ga K e.x) && He.eqO (PySem.W.findIn K (.ref (He.ga K e.x)) e.f) (some none)))))))))))))))))
theorem ErrD.told {P : Program} {K : PySem.W.Frag} {e : ErrD} (h : e.ok P K = true) (o : e.obs K = e.val) :
    ∃ cc c fd, ErrC P K (He.ga K e.x) (He.ma K (He.ga K e.x) "__init__") c cc ⟨"__init__", e.qual, defArgs e.st, defBody e.st, defScope e.st, [(("__class__" : Str), cc)], c⟩ e.y ∧ (∃ oc od osl, K.lookup (He.ma K (He.ga K e.x) "__init__") = some ⟨oc, od, .func fd, osl⟩) ∧
      (∃ kV doc pm an ct, fd = PySem.W.fnX "__init__" e.qual (defArgs e.st) (defBody e.st) (defScope e.st) [(("__class__" : Str), cc)] .none kV doc pm an (.ref c) ct) ∧ XfC K (He.ga K e.x) ∧ PySem.W.findIn K (.ref (He.ga K e.x)) e.f = some none ∧
      PySem.W.findIn K (.ref (He.ga K e.x)) "__init__" = some (some (.ref (He.ma K (He.ga K e.x) "__init__"))) ∧ PySem.W.typeIn K (.ref (He.ma K (He.ga K e.x) "__init__")) = some (.type "function") ∧ PySem.W.nsIn K mainGlobals e.x = some (some (.ref (He.ga K e.x))) := by
  unfold ErrD.ok at h
  simp only [Bool.and_eq_true] at h
  obtain ⟨b1, b2, b3, b4, b5, b6, b7, b8, b9, b10, b11, b12, b13, b14, b15, b16, b17, b18⟩ := h
  unfold errFnB at b3
  unfold ErrD.obs at o
  split at b3
  · rename_i oc od fd osl lk
    rw [lk] at o
    obtain ⟨n1, n2, n3, n4, n5, n6, n7, n8, n9, n10, n11, n12, n13, n14, n15⟩ := fd
    dsimp only at b3
    split at b3
    · rename_i c nm cc
      have o2 : (some (n1, n2, n3, n4, n5, n6, [nm], n15) : FnE) = (some (("__init__" : Str), e.qual, defArgs e.st, FuncBody.stmts (defBody e.st), defScope e.st, mainGlobals, [("__class__" : Str)], builtinsNs) : FnE) := o
      simp only [Option.some.injEq, Prod.mk.injEq, List.cons.injEq, and_true] at o2
      obtain ⟨h1, h2, h3, h4, h5, h6, h7, h9⟩ := o2
      subst h1 h2 h3 h4 h5 h6 h7 h9
      simp only [Bool.and_eq_true] at b3
      obtain ⟨c1, c2, c3⟩ := b3
      have code : ∃ ccl cdd vs ccs file tf, K.lookup c = some ⟨ccl, cdd, .fields vs, ccs⟩ ∧ vs[2]? = some (.str file tf) ∧ ((P.main.file : Str) == file) = true := by
        split at c2
        · rename_i ccl cdd vs ccs lc
          split at c2
          · rename_i file tf hv
            exact ⟨_, _, vs, _, file, tf, lc, hv, c2⟩
          · cases c2
        · cases c2
      have cell : ∃ a b d, K.lookup cc = some ⟨a, b, .cell (some (.ref (He.ga K e.x))), d⟩ := by
        split at c3
        · rename_i a b C' d lc
          have := of_decide_eq_true c3
          subst this
          exact ⟨_, _, _, lc⟩
        · cases c3
      refine ⟨cc, c, _, ⟨⟨errCls_of b2, He.eqO_ok b4, of_decide_eq_true b5, of_decide_eq_true b6, b7⟩, ⟨_, _, _, _, _, _, _, _, lk⟩, c1, code, rfl, cell, Option.isSome_iff_exists.mp b8, of_decide_eq_true b9, He.eqO_ok b10, He.eqO_ok b11, of_decide_eq_true b12, He.eqO_ok b13, b14⟩, ⟨_, _, _, lk⟩, ⟨_, _, _, _, _, rfl⟩, xfB_ok b17, He.eqO_ok b18, He.eqO_ok b15, of_decide_eq_true b16, He.eqO_ok b1⟩
    · cases b3
  · cases b3
end Rm
/-! Rm, part O: a head's Hook with own errors. -/
namespace Rm
open PySem PySem.Spec L2
open PyProof.Rows hiding St
abbrev AlE : Type := He.AlD × (Bool × List FnE)
def fragE (n : Nat) (g : Addr → Option Obj) : PySem.W.Frag := He.frG g (cStatics :: He.asD g n)
def lookE (P : Program) (fa : List He.Fa) (fn : List He.DefD) (es : List ErrD) (ex : PySem.W.Frag → Bool) (K : PySem.W.Frag) : AlE := (He.obsD fa fn K, (ex K && es.all fun e => e.ok P K, es.map fun e => e.obs K))
def obsE (P : Program) (n : Nat) (fa : List He.Fa) (fn : List He.DefD) (es : List ErrD) (ex : PySem.W.Frag → Bool) (g : Addr → Option Obj) : AlE := lookE P fa fn es ex (fragE n g)
structure SaysE (P : Program) (fa : List He.Fa) (fn : List He.DefD) (es : List ErrD) (ex : PySem.W.Frag → Bool) (K : PySem.W.Frag) : Prop where
  d : He.SaysD fa fn K
  x : ex K = true
  ok : ∀ e ∈ es, e.ok P K = true
  ob : ∀ e ∈ es, e.obs K = e.val
theorem map_eq_mem {α β : Type} {f g : α → β} : ∀ {l : List α}, l.map f = l.map g → ∀ a ∈ l, f a = g a
  | [], _, a, h => by cases h
  | x :: r, e, a, h => by
    rw [List.map_cons, List.map_cons] at e
    injection e with e1 e2
    rcases List.mem_cons.mp h with rfl | h
    · exact e1
    · exact map_eq_mem e2 a h
theorem saysE_of {P : Program} {fa : List He.Fa} {fn : List He.DefD} {es : List ErrD} {ex : PySem.W.Frag → Bool} {K : PySem.W.Frag} (e : lookE P fa fn es ex K = (He.valD fn, (true, es.map ErrD.val))) : SaysE P fa fn es ex K := by
  have e1 := congrArg Prod.fst e
  have e2 := congrArg (fun z : AlE => z.2.1) e
  have e3 := congrArg (fun z : AlE => z.2.2) e
  obtain ⟨a, b⟩ := Bool.and_eq_true_iff.mp (show (ex K && es.all fun e => e.ok P K) = true from e2)
  exact ⟨e1, a, fun x h => List.all_eq_true.mp b x h, map_eq_mem e3⟩
def hookE (P : Program) (n : Nat) (fa : List He.Fa) (fn : List He.DefD) (es : List ErrD) (ex : PySem.W.Frag → Bool) : PySem.W.Hook :=
  ⟨AlE, fun s => obsE P n fa fn es ex s.heap.get?, fun _ => (He.valD fn, (true, es.map ErrD.val)), fun _ h => ∃ K : PySem.W.Frag, K.In h ∧ SaysE P fa fn es ex K,
    fun _ s e => ⟨fragE n s.heap.get?, He.frG_in, saysE_of e⟩,
    fun _ _ _ z k => by
      obtain ⟨K, hK, c⟩ := z
      exact ⟨K, hK.keeps k, c⟩⟩
theorem obsE_eq {P : Program} {n : Nat} {fa : List He.Fa} {fn : List He.DefD} {es : List ErrD} {ex : PySem.W.Frag → Bool} (s : PySem.W.SharedT) : obsE P n fa fn es ex (HandSHeadRun.getT s) = (hookE P n fa fn es ex).obs s.abs := by
  show obsE P n fa fn es ex (HandSHeadRun.getT s) = obsE P n fa fn es ex s.abs.heap.get?
  rw [show HandSHeadRun.getT s = s.abs.heap.get? from funext (HandSHeadRun.getT_eq s)]
end Rm
/-! Rm, part P: methods, told by the head. -/
/-! Rm, part Q: own objects under len, in, [], ==. -/
namespace Rm
open PySem PySem.Spec L2
open PyProof.Rows hiding St
theorem lk_hd {f : Str} {v : V} {r : List (Str × V)} : List.lookup f ((f, v) :: r) = some v := by
  rw [List.lookup_cons, beq_self_eq_true]
end Rm
/-! Rm, part V1: trees of values, what is one's own and what is frozen; the state of a def's frame. -/
namespace Rm
open PySem PySem.Spec L2
open PyProof.Rows hiding St
/-- a value as a tree; a list, a dict, an instance is one's own (true) or frozen -/
inductive T where
  | non | bl (b : Bool) | int (i : Int) | str (x : Str)
  | tup (ts : List T)
  | lst (o : Bool) (ts : List T)
  | dct (o : Bool) (ps : List (Key × T))
  /-- a dict whose keys are tuples -/
  | dtp (o : Bool) (ks : List (List Key)) (ts : List T)
  | ins (o : Bool) (C : Str) (fs : List (Str × T))
  /-- the script -/
  | scr (ts : List T)
/-- where classes stand; the dicts of exceptions that are caught -/
structure Ks where
  cl : Str → Addr
  xo : Addr → Option Addr
mutual
inductive Ow (ca : Ks) (H Z : Hp) : V → T → List Addr → Prop
  | non : Ow ca H Z .non .non []
  | bl (b : Bool) : Ow ca H Z (.bl b) (.bl b) []
  | int (i : Int) : Ow ca H Z (.int i) (.int i) []
  | str (x : Str) : Ow ca H Z (.str x) (.str x) []
  | tup {a : Addr} {xs : List V} {ts : List T} : Z a = some (.tup xs) → OwA ca H Z xs ts [] → Ow ca H Z (.ref a) (.tup ts) []
  | lstF {a : Addr} {xs : List V} {ts : List T} : Z a = some (.lst xs) → OwA ca H Z xs ts [] → Ow ca H Z (.ref a) (.lst false ts) []
  | lstO {a : Addr} {xs : List V} {ts : List T} {fp : List Addr} : H a = some (.lst xs) → OwA ca H Z xs ts fp → Ow ca H Z (.ref a) (.lst true ts) (a :: fp)
  | dctF {a : Addr} {ks : List (Key × V)} {ps : List (Key × T)} : rdo Z a = some (.dK ks) → ks.map (·.1) = ps.map (·.1) → OwA ca H Z (ks.map (·.2)) (ps.map (·.2)) [] → Ow ca H Z (.ref a) (.dct false ps) []
  | dctO {a : Addr} {ks : List (Key × V)} {ps : List (Key × T)} {fp : List Addr} : rdo H a = some (.dK ks) → ks.map (·.1) = ps.map (·.1) → OwA ca H Z (ks.map (·.2)) (ps.map (·.2)) fp → (ps.map (·.1)).Nodup → Ow ca H Z (.ref a) (.dct true ps) (a :: fp)
  | dtpF {a : Addr} {kvs : List (List Key × V)} {ks : List (List Key)} {ts : List T} : rdo Z a = some (.dT kvs) → kvs.map (·.1) = ks → OwA ca H Z (kvs.map (·.2)) ts [] → Ow ca H Z (.ref a) (.dtp false ks ts) []
  | dtpO {a : Addr} {kvs : List (List Key × V)} {ks : List (List Key)} {ts : List T} {fp : List Addr} : rdo H a = some (.dT kvs) → kvs.map (·.1) = ks → OwA ca H Z (kvs.map (·.2)) ts fp → ks.Nodup → Ow ca H Z (.ref a) (.dtp true ks ts) (a :: fp)
  | insF {a dx : Addr} {C : Str} {fs : List (Str × V)} {gs : List (Str × T)} : Z a = some (.ins (ca.cl C) dx fs) → fs.map (·.1) = gs.map (·.1) → OwA ca H Z (fs.map (·.2)) (gs.map (·.2)) [] → Ow ca H Z (.ref a) (.ins false C gs) []
  | insO {a dx : Addr} {C : Str} {fs : List (Str × V)} {gs : List (Str × T)} {fp : List Addr} : H a = some (.ins (ca.cl C) dx fs) → fs.map (·.1) = gs.map (·.1) → OwA ca H Z (fs.map (·.2)) (gs.map (·.2)) fp → (gs.map (·.1)).Nodup → Ow ca H Z (.ref a) (.ins true C gs) (a :: fp)
  | scr {a : Addr} {xs : List V} {ts : List T} : rdo Z a = some (.lst xs) → OwA ca H Z xs ts [] → Ow ca H Z (.ref a) (.scr ts) []
inductive OwA (ca : Ks) (H Z : Hp) : List V → List T → List Addr → Prop
  | nil : OwA ca H Z [] [] []
  | cons {v : V} {vs : List V} {t : T} {ts : List T} {f g : List Addr} : Ow ca H Z v t f → OwA ca H Z vs ts g → OwA ca H Z (v :: vs) (t :: ts) (f ++ g)
end
theorem rdo_at {H H' : Hp} {a : Addr} {u : HO} (h : ∀ o, H a = some o → H' a = some o) (e : rdo H a = some u) : rdo H' a = some u := by
  obtain ⟨o, q⟩ := rdo_some e
  have q2 := h o q
  unfold rdo at e ⊢
  rw [q] at e
  rw [q2]; exact e
section
variable {ca : Ks} {H H' Z Z' M : Hp}
mutual
theorem Ow.mono (z : Ext Z Z') : ∀ {v : V} {t : T} {fp : List Addr}, (∀ a ∈ fp, ∀ o, H a = some o → H' a = some o) → Ow ca H Z v t fp → Ow ca H' Z' v t fp
  | _, _, _, _, .non => .non
  | _, _, _, _, .bl b => .bl b
  | _, _, _, _, .int i => .int i
  | _, _, _, _, .str x => .str x
  | _, _, _, h, .tup e A => .tup (z _ _ e) (OwA.mono z (fun _ q => nomatch q) A)
  | _, _, _, h, .lstF e A => .lstF (z _ _ e) (OwA.mono z (fun _ q => nomatch q) A)
  | _, _, _, h, .lstO e A => .lstO (h _ List.mem_cons_self _ e) (OwA.mono z (fun a q => h a (List.mem_cons_of_mem _ q)) A)
  | _, _, _, h, .dctF e k A => .dctF (z.o e) k (OwA.mono z (fun _ q => nomatch q) A)
  | _, _, _, h, .dtpF e k A => .dtpF (z.o e) k (OwA.mono z (fun _ q => nomatch q) A)
  | _, _, _, h, .dctO e k A nd => .dctO (rdo_at (h _ List.mem_cons_self) e) k (OwA.mono z (fun a q => h a (List.mem_cons_of_mem _ q)) A) nd
  | _, _, _, h, .dtpO e k A nd => .dtpO (rdo_at (h _ List.mem_cons_self) e) k (OwA.mono z (fun a q => h a (List.mem_cons_of_mem _ q)) A) nd
  | _, _, _, h, .insF e k A => .insF (z _ _ e) k (OwA.mono z (fun _ q => nomatch q) A)
  | _, _, _, h, .insO e k A nd => .insO (h _ List.mem_cons_self _ e) k (OwA.mono z (fun a q => h a (List.mem_cons_of_mem _ q)) A) nd
  | _, _, _, h, .scr e A => .scr (z.o e) (OwA.mono z (fun _ q => nomatch q) A)
theorem OwA.mono (z : Ext Z Z') : ∀ {vs : List V} {ts : List T} {fp : List Addr}, (∀ a ∈ fp, ∀ o, H a = some o → H' a = some o) → OwA ca H Z vs ts fp → OwA ca H' Z' vs ts fp
  | _, _, _, _, .nil => .nil
  | _, _, _, h, .cons a b => .cons (Ow.mono z (fun x q => h x (List.mem_append_left _ q)) a) (OwA.mono z (fun x q => h x (List.mem_append_right _ q)) b)
end
mutual
/-- a tree does not ask about exceptions -/
theorem Ow.re {ca ca' : Ks} (e : ca.cl = ca'.cl) : ∀ {v : V} {t : T} {fp : List Addr}, Ow ca H Z v t fp → Ow ca' H Z v t fp
  | _, _, _, .non => .non
  | _, _, _, .bl b => .bl b
  | _, _, _, .int i => .int i
  | _, _, _, .str x => .str x
  | _, _, _, .tup h A => .tup h (OwA.re e A)
  | _, _, _, .lstF h A => .lstF h (OwA.re e A)
  | _, _, _, .lstO h A => .lstO h (OwA.re e A)
  | _, _, _, .dctF h k A => .dctF h k (OwA.re e A)
  | _, _, _, .dtpF h k A => .dtpF h k (OwA.re e A)
  | _, _, _, .dctO h k A nd => .dctO h k (OwA.re e A) nd
  | _, _, _, .dtpO h k A nd => .dtpO h k (OwA.re e A) nd
  | _, _, _, .insF h k A => .insF (by rw [← e]; exact h) k (OwA.re e A)
  | _, _, _, .insO h k A nd => .insO (by rw [← e]; exact h) k (OwA.re e A) nd
  | _, _, _, .scr h A => .scr h (OwA.re e A)
theorem OwA.re {ca ca' : Ks} (e : ca.cl = ca'.cl) : ∀ {vs : List V} {ts : List T} {fp : List Addr}, OwA ca H Z vs ts fp → OwA ca' H Z vs ts fp
  | _, _, _, .nil => .nil
  | _, _, _, .cons a b => .cons (Ow.re e a) (OwA.re e b)
end
theorem OwA.length : ∀ {vs : List V} {ts : List T} {fp : List Addr}, OwA ca H Z vs ts fp → vs.length = ts.length
  | _, _, _, .nil => rfl
  | _, _, _, .cons _ A => congrArg (· + 1) (OwA.length A)
/-! ### the data of a tree -/
mutual
def T.data : T → Option PyData
  | .non => some .none
  | .bl b => some (.bool b)
  | .int i => some (.int i)
  | .str x => some (.str x)
  | .tup ts => match T.dataA ts with | some ds => some (.tuple ds) | none => none
  | .lst _ ts => match T.dataA ts with | some ds => some (.list ds) | none => none
  | .dct _ ps => match T.dataP ps with | some ds => some (.dict ds) | none => none
  | .dtp _ _ _ => none
  | .ins _ _ _ => none
  | .scr ts => match T.dataA ts with | some ds => some (.list ds) | none => none
def T.dataA : List T → Option (List PyData)
  | [] => some []
  | t :: ts => match T.data t, T.dataA ts with | some d, some ds => some (d :: ds) | _, _ => none
def T.dataP : List (Key × T) → Option (List (PyData × PyData))
  | [] => some []
  | (k, t) :: ts => match T.data t, T.dataP ts with | some d, some ds => some ((keyD k, d) :: ds) | _, _ => none
end
/-! a frozen tree of the same shape -/
mutual
def T.frz : T → T
  | .non => .non
  | .bl b => .bl b
  | .int i => .int i
  | .str x => .str x
  | .tup ts => .tup (T.frzA ts)
  | .lst _ ts => .lst false (T.frzA ts)
  | .dct _ ps => .dct false (T.frzP ps)
  | .dtp _ ks ts => .dtp false ks (T.frzA ts)
  | .ins _ C fs => .ins false C (T.frzF fs)
  | .scr ts => .scr (T.frzA ts)
def T.frzA : List T → List T
  | [] => []
  | t :: ts => T.frz t :: T.frzA ts
def T.frzP : List (Key × T) → List (Key × T)
  | [] => []
  | (k, t) :: ts => (k, T.frz t) :: T.frzP ts
def T.frzF : List (Str × T) → List (Str × T)
  | [] => []
  | (k, t) :: ts => (k, T.frz t) :: T.frzF ts
end
theorem T.frzP_map : ∀ ps : List (Key × T), (T.frzP ps).map (·.1) = ps.map (·.1) ∧ (T.frzP ps).map (·.2) = T.frzA (ps.map (·.2))
  | [] => ⟨rfl, rfl⟩
  | (k, t) :: r => by
    have h := T.frzP_map r
    simp only [T.frzP, List.map_cons, h.1, h.2, T.frzA, and_self]
theorem T.frzF_map : ∀ ps : List (Str × T), (T.frzF ps).map (·.1) = ps.map (·.1) ∧ (T.frzF ps).map (·.2) = T.frzA (ps.map (·.2))
  | [] => ⟨rfl, rfl⟩
  | (k, t) :: r => by
    have h := T.frzF_map r
    simp only [T.frzF, List.map_cons, h.1, h.2, T.frzA, and_self]
/-! frozen already: nothing in it is own -/
mutual
def T.isF : T → Bool
  | .non | .bl _ | .int _ | .str _ => true
  | .tup ts => T.isFA ts
  | .lst o ts => !o && T.isFA ts
  | .dct o ps => !o && T.isFP ps
  | .dtp o _ ts => !o && T.isFA ts
  | .ins o _ fs => !o && T.isFF fs
  | .scr ts => T.isFA ts
def T.isFA : List T → Bool
  | [] => true
  | t :: ts => T.isF t && T.isFA ts
def T.isFP : List (Key × T) → Bool
  | [] => true
  | (_, t) :: ts => T.isF t && T.isFP ts
def T.isFF : List (Str × T) → Bool
  | [] => true
  | (_, t) :: ts => T.isF t && T.isFF ts
end
mutual
theorem Ow.nof : ∀ {v : V} {t : T} {fp : List Addr}, Ow ca H Z v t fp → t.isF = true → fp = []
  | _, _, _, .non, _ => rfl
  | _, _, _, .bl b, _ => rfl
  | _, _, _, .int i, _ => rfl
  | _, _, _, .str x, _ => rfl
  | _, _, _, .tup e A, _ => rfl
  | _, _, _, .lstF e A, _ => rfl
  | _, _, _, .lstO e A, h => by simp [T.isF] at h
  | _, _, _, .dctF e k A, _ => rfl
  | _, _, _, .dtpF e k A, _ => rfl
  | _, _, _, .dctO e k A nd, h => by simp [T.isF] at h
  | _, _, _, .dtpO e k A nd, h => by simp [T.isF] at h
  | _, _, _, .insF e k A, _ => rfl
  | _, _, _, .insO e k A nd, h => by simp [T.isF] at h
  | _, _, _, .scr e A, _ => rfl
theorem OwA.nof : ∀ {vs : List V} {ts : List T} {fp : List Addr}, OwA ca H Z vs ts fp → T.isFA ts = true → fp = []
  | _, _, _, .nil, _ => rfl
  | _, _, _, .cons h A, q => by
    simp only [T.isFA, Bool.and_eq_true] at q
    rw [Ow.nof h q.1, OwA.nof A q.2]; rfl
end
end
end Rm
/-! Rm, part V2: the frame's state as trees; expressions and lists of expressions. -/
namespace Rm
open PySem PySem.Spec L2
open PyProof.Rows hiding St
section
variable {ca : Ks} {H H' Z Z' M : Hp}
/-! ### the data of a tree, in a heap -/
mutual
theorem Ow.dr (z : Ext Z H) : ∀ {v : V} {t : T} {fp : List Addr} {d : PyData}, Ow ca H Z v t fp → t.data = some d → Dr H v d
  | _, _, _, _, .non, e => by cases e; exact .non
  | _, _, _, _, .bl b, e => by cases e; exact .bl b
  | _, _, _, _, .int i, e => by cases e; exact .int i
  | _, _, _, _, .str x, e => by cases e; exact .str x
  | _, _, _, _, .tup (ts := ts) h A, e => by
    unfold T.data at e
    split at e
    · rename_i ds q; cases e; exact .tup (rdo_of (z _ _ h) (fun _ _ y => nomatch y)) (OwA.dr z A q)
    · cases e
  | _, _, _, _, .lstF (ts := ts) h A, e => by
    unfold T.data at e
    split at e
    · rename_i ds q; cases e; exact .lst (rdo_of (z _ _ h) (fun _ _ y => nomatch y)) (OwA.dr z A q)
    · cases e
  | _, _, _, _, .lstO (ts := ts) h A, e => by
    unfold T.data at e
    split at e
    · rename_i ds q; cases e; exact .lst (rdo_of h (fun _ _ y => nomatch y)) (OwA.dr z A q)
    · cases e
  | _, _, _, _, .dctF (ks := ks) (ps := ps) h k A, e => by
    unfold T.data at e
    split at e
    · rename_i ds q; cases e; exact .dct (z.o h) (OwA.drP z k A q)
    · cases e
  | _, _, _, _, .dctO (ks := ks) (ps := ps) h k A _, e => by
    unfold T.data at e
    split at e
    · rename_i ds q; cases e; exact .dct h (OwA.drP z k A q)
    · cases e
  | _, _, _, _, .dtpF h k A, e => by cases e
  | _, _, _, _, .dtpO h k A _, e => by cases e
  | _, _, _, _, .insF h k A, e => by cases e
  | _, _, _, _, .insO h k A _, e => by cases e
  | _, _, _, _, .scr (ts := ts) h A, e => by
    unfold T.data at e
    split at e
    · rename_i ds q; cases e; exact .lst (z.o h) (OwA.dr z A q)
    · cases e
theorem OwA.dr (z : Ext Z H) : ∀ {vs : List V} {ts : List T} {fp : List Addr} {ds : List PyData}, OwA ca H Z vs ts fp → T.dataA ts = some ds → DrA H vs ds
  | _, _, _, _, .nil, e => by cases e; exact .nil
  | _, _, _, _, .cons h A, e => by
    unfold T.dataA at e
    split at e
    · rename_i d ds q1 q2; cases e; exact .cons (Ow.dr z h q1) (OwA.dr z A q2)
    · cases e
theorem OwA.drP (z : Ext Z H) : ∀ {ks : List (Key × V)} {ps : List (Key × T)} {fp : List Addr} {ds : List (PyData × PyData)}, ks.map (·.1) = ps.map (·.1) → OwA ca H Z (ks.map (·.2)) (ps.map (·.2)) fp → T.dataP ps = some ds → DrK H ks ds
  | [], [], _, _, _, _, e => by cases e; exact .nil
  | [], _ :: _, _, _, k, _, _ => nomatch k
  | _ :: _, [], _, _, k, _, _ => nomatch k
  | (k1, v) :: ks, (k2, t) :: ps, _, _, k, A, e => by
    simp only [List.map_cons, List.cons.injEq] at k
    obtain ⟨rfl, k⟩ := k
    unfold T.dataP at e
    split at e
    · rename_i d ds q1 q2
      cases e
      cases A with
      | cons h A => exact .cons (Ow.dr z h q1) (OwA.drP z k A q2)
    · cases e
end
/-! ### data as a frozen tree -/
def keyU : PyData → Key
  | .int i => .inl i
  | .str x => .inr x
  | _ => .inl 0
theorem keyU_D (k : Key) : keyU (keyD k) = k := by cases k <;> rfl
mutual
def enc : PyData → T
  | .none => .non
  | .bool b => .bl b
  | .int i => .int i
  | .str x => .str x
  | .tuple ds => .tup (encA ds)
  | .list ds => .lst false (encA ds)
  | .dict ds => .dct false (encP ds)
def encA : List PyData → List T
  | [] => []
  | d :: ds => enc d :: encA ds
def encP : List (PyData × PyData) → List (Key × T)
  | [] => []
  | (k, d) :: ds => (keyU k, enc d) :: encP ds
end
/-- nothing is locked -/
def NF (Z : Hp) : Prop := ∀ a o u, Z a ≠ some (.frz o u)
theorem NF.rd {Z : Hp} (n : NF Z) {a : Addr} {u : HO} (h : rdo Z a = some u) : Z a = some u := by
  unfold rdo at h
  split at h
  · rename_i o v e; exact absurd e (n _ _ _)
  · exact h
mutual
theorem Dr.ow (nf : NF Z) : ∀ {v : V} {d : PyData}, Dr Z v d → Ow ca H Z v (enc d) []
  | _, _, .non => .non
  | _, _, .bl b => .bl b
  | _, _, .int i => .int i
  | _, _, .str x => .str x
  | _, _, .lst h A => .lstF (nf.rd h) (DrA.ow nf A)
  | _, _, .tup h A => .tup (nf.rd h) (DrA.ow nf A)
  | _, _, .dct h A => .dctF h (DrK.ow nf A).1 (DrK.ow nf A).2
theorem DrA.ow (nf : NF Z) : ∀ {vs : List V} {ds : List PyData}, DrA Z vs ds → OwA ca H Z vs (encA ds) []
  | _, _, .nil => .nil
  | _, _, .cons h A => .cons (f := []) (g := []) (Dr.ow nf h) (DrA.ow nf A)
theorem DrK.ow (nf : NF Z) : ∀ {ks : List (Key × V)} {ds : List (PyData × PyData)}, DrK Z ks ds → ks.map (·.1) = (encP ds).map (·.1) ∧ OwA ca H Z (ks.map (·.2)) ((encP ds).map (·.2)) []
  | _, _, .nil => ⟨rfl, .nil⟩
  | _, _, .cons (k := k) h A => by
    have q := DrK.ow nf A
    simp only [encP, List.map_cons, q.1, keyU_D]
    exact ⟨trivial, .cons (f := []) (g := []) (Dr.ow nf h) q.2⟩
end
/-! ### freezing -/
mutual
theorem Ow.frz {H2 : Hp} (z : Ext Z Z') : ∀ {v : V} {t : T} {fp : List Addr}, Ow ca H Z v t fp → (∀ a ∈ fp, ∀ o, H a = some o → Z' a = some o) → Ow ca H2 Z' v t.frz []
  | _, _, _, .non, _ => .non
  | _, _, _, .bl b, _ => .bl b
  | _, _, _, .int i, _ => .int i
  | _, _, _, .str x, _ => .str x
  | _, _, _, .tup e A, h => .tup (z _ _ e) (OwA.frz z A (fun _ q => nomatch q))
  | _, _, _, .lstF e A, h => .lstF (z _ _ e) (OwA.frz z A (fun _ q => nomatch q))
  | _, _, _, .lstO e A, h => .lstF (h _ List.mem_cons_self _ e) (OwA.frz z A (fun a q => h a (List.mem_cons_of_mem _ q)))
  | _, _, _, .dctF e k A, h => .dctF (z.o e) (k.trans (T.frzP_map _).1.symm) (by rw [(T.frzP_map _).2]; exact OwA.frz z A (fun _ q => nomatch q))
  | _, _, _, .dctO e k A _, h => .dctF (rdo_at (h _ List.mem_cons_self) e) (k.trans (T.frzP_map _).1.symm) (by rw [(T.frzP_map _).2]; exact OwA.frz z A (fun a q => h a (List.mem_cons_of_mem _ q)))
  | _, _, _, .dtpF e k A, h => .dtpF (z.o e) k (OwA.frz z A (fun _ q => nomatch q))
  | _, _, _, .dtpO e k A _, h => .dtpF (rdo_at (h _ List.mem_cons_self) e) k (OwA.frz z A (fun a q => h a (List.mem_cons_of_mem _ q)))
  | _, _, _, .insF e k A, h => .insF (z _ _ e) (k.trans (T.frzF_map _).1.symm) (by rw [(T.frzF_map _).2]; exact OwA.frz z A (fun _ q => nomatch q))
  | _, _, _, .insO e k A _, h => .insF (h _ List.mem_cons_self _ e) (k.trans (T.frzF_map _).1.symm) (by rw [(T.frzF_map _).2]; exact OwA.frz z A (fun a q => h a (List.mem_cons_of_mem _ q)))
  | _, _, _, .scr e A, h => .scr (z.o e) (OwA.frz z A (fun _ q => nomatch q))
theorem OwA.frz {H2 : Hp} (z : Ext Z Z') : ∀ {vs : List V} {ts : List T} {fp : List Addr}, OwA ca H Z vs ts fp → (∀ a ∈ fp, ∀ o, H a = some o → Z' a = some o) → OwA ca H2 Z' vs (T.frzA ts) []
  | _, _, _, .nil, _ => .nil
  | _, _, _, .cons h A, q => .cons (f := []) (g := []) (Ow.frz z h (fun a y => q a (List.mem_append_left _ y))) (OwA.frz z A (fun a y => q a (List.mem_append_right _ y)))
end
theorem Ow.any {v : V} {t : T} {H2 : Hp} (h : Ow ca H Z v t []) : Ow ca H2 Z v t [] := Ow.mono (Ext.refl Z) (fun _ q => nomatch q) h
theorem OwA.any {vs : List V} {ts : List T} {H2 : Hp} (h : OwA ca H Z vs ts []) : OwA ca H2 Z vs ts [] := OwA.mono (Ext.refl Z) (fun _ q => nomatch q) h
end
/-! ### slots -/
inductive Ent where
  | no | own (t : T) | vw (t : T)
  /-- an exception that was caught: its field, what it holds -/
  | exc (f : Str) (t : T)
def Ent.t : Ent → T
  | .own t => t
  | .vw t => t
  | .no => .non
  | .exc _ _ => .non
inductive R (α : Type) where
  | ok (a : α) (ρ : List Ent) | err (C : Str) (d : T) (ρ : List Ent) | fail
def R.bind {α β : Type} (r : R α) (k : α → List Ent → R β) : R β := match r with
  | .ok a ρ => k a ρ
  | .err C d ρ => .err C d ρ
  | .fail => .fail
/-- what may be one's own -/
def ownO : HO → Bool
  | .lst _ => true
  | .dK _ => true
  | .dT _ => true
  | .ins _ _ _ => true
  | _ => false
/-- there, and one's own (not locked, no table, no code object) -/
def Op (H : Hp) (a : Addr) : Prop := ∃ o, H a = some o ∧ ownO o = true
theorem Op.nn {H : Hp} {a : Addr} (h : Op H a) : H a ≠ none := by
  obtain ⟨o, e, _⟩ := h
  rw [e]; exact fun z => nomatch z
theorem Op.keep {H H' : Hp} {a : Addr} (h : Op H a) (k : ∀ o, H a = some o → H' a = some o) : Op H' a := by
  obtain ⟨o, e, n⟩ := h
  exact ⟨o, k o e, n⟩
theorem Op.rd {H : Hp} {a : Addr} {u : HO} (h : Op H a) (e : rdo H a = some u) : H a = some u := by
  obtain ⟨o, e2, n⟩ := h
  unfold rdo at e
  rw [e2] at e
  split at e
  · rename_i z; cases z; cases n
  · rw [e2]; exact e
/-- the tables of code objects that are kept -/
class Tb where
  T : List (Addr × Str)
instance (priority := low) Tb.none : Tb := ⟨[]⟩
/-- tables and code objects -/
def isTC : HO → Prop := fun o => (∃ ps, o = .tbl ps) ∨ ∃ c q, o = LamX.CodeO c q
theorem isTC_own {o : HO} (h : isTC o) (q : ownO o = true) : False := by
  rcases h with ⟨ps, rfl⟩ | ⟨c, x, rfl⟩
  · cases q
  · cases q
theorem tabs_keep {T : List (Addr × Str)} {H H' : Hp} (t : LamX.Tabs T H) (k : ∀ a o, H a = some o → isTC o → H' a = some o) : LamX.Tabs T H' := fun p hp => by
  obtain ⟨ps, e, tr, h⟩ := t p hp
  refine ⟨ps, k _ _ e (.inl ⟨_, rfl⟩), tr, fun pos cv q => ?_⟩
  obtain ⟨c, e1, e2⟩ := h pos cv q
  exact ⟨c, e1, k _ _ e2 (.inr ⟨_, _, rfl⟩)⟩
/-- no table stands here -/
def NoT (M : Hp) : Prop := ∀ a ps, M a ≠ some (.tbl ps)
/-- tables stand apart -/
structure TbOk (T : List (Addr × Str)) (M Z H : Hp) : Prop where
  m : T ≠ [] → NoT M
  z : NoT Z
  t : LamX.Tabs T H
theorem TbOk.nil {M Z H : Hp} (z : NoT Z) : TbOk [] M Z H := ⟨fun q => absurd rfl q, z, fun _ q => nomatch q⟩
theorem NoT.ext {M M' : Hp} (n : NoT M') (x : Ext M M') : NoT M := fun a ps e => n a ps (x _ _ e)
theorem NoT.upd {Z : Hp} {p : Addr} {o : HO} (n : NoT Z) (h : ∀ ps, o ≠ .tbl ps) : NoT (upd Z p o) := fun a ps e => by
  by_cases q : a = p
  · subst q; rw [upd_same] at e; cases e; exact h _ rfl
  · rw [upd_ne q] at e; exact n a ps e
/-- a new heap of frozen things -/
theorem NoT.zn {Z Z' H H' M : Hp} (n : NoT Z) (z : Ext Z Z') (zh : Ext Z' H') (h : ∀ a, Z' a ≠ none → Z a ≠ none ∨ M a = none) (m : ∀ a ps, Z' a = some (.tbl ps) → M a ≠ none) : NoT Z' := fun a ps e => by
  rcases h a (by rw [e]; exact fun z => nomatch z) with q | q
  · cases y : Z a with
    | none => exact q y
    | some o => have := z _ _ y; rw [e] at this; cases this; exact n _ _ y
  · exact m a ps e q
theorem own_tbl {o : HO} (h : ownO o = true) : ∀ ps, o ≠ .tbl ps := fun ps e => by subst e; cases h
structure BaseT (T : List (Addr × Str)) (M Z H : Hp) (w : List Addr) : Prop where
  z : Ext Z H
  zw : ∀ a ∈ w, Z a = none
  m : Ext M H
  mw : ∀ a ∈ w, M a = none
  nd : w.Nodup
  hw : ∀ a ∈ w, Op H a
  tb : TbOk T M Z H
variable [Tb]
abbrev Base (M Z H : Hp) (w : List Addr) : Prop := BaseT Tb.T M Z H w
inductive Slot (ca : Ks) (H M Z : Hp) : Option V → Ent → List Addr → Prop
  | no {x : Option V} : Slot ca H M Z x .no []
  | own {v : V} {t : T} {fp : List Addr} : Ow ca H Z v t fp → Slot ca H M Z (some v) (.own t) fp
  | vw {v : V} {t : T} {g : List Addr} : Ow ca M Z v t g → Slot ca H M Z (some v) (.vw t) []
  | exc {a dd : Addr} {vd : V} {f : Str} {t : T} : ca.xo a = some dd → Z dd = some (.xd [(f, vd)]) → Ow ca M Z vd t [] → Slot ca H M Z (some (.ref a)) (.exc f t) []
inductive Slots (ca : Ks) (H M Z : Hp) : St → List Ent → List Addr → Prop
  | nil : Slots ca H M Z [] [] []
  | cons {x : Option V} {σ : St} {e : Ent} {ρ : List Ent} {f g : List Addr} : Slot ca H M Z x e f → Slots ca H M Z σ ρ g → Slots ca H M Z (x :: σ) (e :: ρ) (f ++ g)
/-- an expression's value -/
inductive EntV (ca : Ks) (H Z : Hp) : V → Ent → List Addr → Prop
  | own {v : V} {t : T} {fp : List Addr} : Ow ca H Z v t fp → EntV ca H Z v (.own t) fp
  | vw {v : V} {t : T} {g : List Addr} : Ow ca H Z v t g → EntV ca H Z v (.vw t) []
/-- nothing stands here, or a tuple, which nobody owns -/
def NoOwn (M : Hp) (a : Addr) : Prop := ∀ o, M a = some o → ∃ xs, o = .tup xs
theorem NoOwn.of_none {M : Hp} {a : Addr} (h : M a = none) : NoOwn M a := fun o e => by rw [h] at e; cases e
theorem NoOwn.op {M : Hp} {a : Addr} {o : HO} (n : NoOwn M a) (e : M a = some o) (h : ownO o = true) : False := by
  obtain ⟨xs, rfl⟩ := n o e
  cases h
def ZN (M Z Z' : Hp) : Prop := ∀ a, Z' a ≠ none → Z a ≠ none ∨ NoOwn M a
section
variable {ca : Ks} {H H' H2 Z Z' Z2 M M' : Hp} {w w' fp f : List Addr} {σ : St} {ρ : List Ent}
theorem ZN.refl : ZN M Z Z := fun _ h => Or.inl h
theorem ZN.trans (a : ZN M Z Z') (b : ZN M Z' Z2) : ZN M Z Z2 := fun x h => (b x h).elim (a x) Or.inr
theorem ZN.of (h : Ext M M') (a : ZN M' Z Z') : ZN M Z Z' := fun x q => (a x q).imp id fun n o e => n o (h x o e)
theorem Slot.mono (z : Ext Z Z') (hh : ∀ a ∈ fp, ∀ o, H a = some o → H' a = some o) {x : Option V} {e : Ent} (s : Slot ca H M Z x e fp) : Slot ca H' M Z' x e fp := by
  cases s with
  | no => exact .no
  | own h => exact .own (h.mono z hh)
  | vw h => exact .vw (h.mono z (fun _ _ _ q => q))
  | exc x e h => exact .exc x (z _ _ e) (h.mono z (fun _ _ _ q => q))
theorem Slots.mono (z : Ext Z Z') : ∀ {σ : St} {ρ : List Ent} {w : List Addr}, (∀ a ∈ w, ∀ o, H a = some o → H' a = some o) → Slots ca H M Z σ ρ w → Slots ca H' M Z' σ ρ w
  | _, _, _, _, .nil => .nil
  | _, _, _, h, .cons a b => .cons (a.mono z fun x q => h x (List.mem_append_left _ q)) (Slots.mono z (fun x q => h x (List.mem_append_right _ q)) b)
theorem Slots.length : ∀ {σ : St} {ρ : List Ent} {w : List Addr}, Slots ca H M Z σ ρ w → σ.length = ρ.length
  | _, _, _, .nil => rfl
  | _, _, _, .cons a b => congrArg (· + 1) (Slots.length b)
/-- one slot apart -/
theorem Slots.split : ∀ {σ : St} {ρ : List Ent} {w : List Addr} {i : Nat} {e : Ent}, Slots ca H M Z σ ρ w → ρ[i]? = some e → ∃ x l f r, σ[i]? = some x ∧ w = l ++ (f ++ r) ∧ Slot ca H M Z x e f ∧
    ∀ {H' Z' : Hp} {x' : Option V} {e' : Ent} {f' : List Addr}, (∀ a ∈ l ++ r, ∀ o, H a = some o → H' a = some o) → Ext Z Z' → Slot ca H' M Z' x' e' f' → Slots ca H' M Z' (σ.set i x') (ρ.set i e') (l ++ (f' ++ r))
  | _, _, _, 0, _, .cons (x := x) (f := f) (g := g) a b, h => by
    simp at h
    subst h
    refine ⟨x, [], f, g, rfl, rfl, a, fun {H' Z' x' e' f'} hh z s => ?_⟩
    have q : Slots ca H' M Z' (x' :: _) (e' :: _) (f' ++ g) := .cons s (b.mono z fun y q => hh y q)
    exact q
  | _, _, _, i + 1, _, .cons (f := f0) a b, h => by
    simp at h
    obtain ⟨x, l, f, r, e1, e2, s, k⟩ := Slots.split b h
    refine ⟨x, f0 ++ l, f, r, by simpa using e1, by rw [e2]; simp [List.append_assoc], s, fun hh z s => ?_⟩
    have q := Slots.cons (a.mono z fun y q => hh y (by simp [q])) (k (fun y q => hh y (by simp at q ⊢; rcases q with q | q <;> simp [q])) z s)
    simpa [List.append_assoc] using q
theorem Slots.non0 (s : Slots ca H M Z σ ρ w) {i : Nat} (h : ρ[i]? = none) : σ[i]? = none := by
  have := s.length
  have q := List.getElem?_eq_none_iff.mp h
  exact List.getElem?_eq_none_iff.mpr (by omega)
/-! the base -/
theorem Base.sub (b : Base M Z H w) (p : w'.Sublist w) : Base M Z H w' := ⟨b.z, fun a h => b.zw a (p.mem h), b.m, fun a h => b.mw a (p.mem h), p.nodup b.nd, fun a h => b.hw a (p.mem h), b.tb⟩
theorem Base.drop (b : Base M Z H (fp ++ w)) : Base M Z H w := b.sub (List.sublist_append_right _ _)
theorem Base.less (b : Base M' Z H w) (m : Ext M M') : Base M Z H w := ⟨b.z, b.zw, fun a o q => b.m a o (m a o q), fun a h => (by
  cases y : M a with
  | none => rfl
  | some o => have q := b.mw a h; rw [m a o y] at q; cases q), b.nd, b.hw, ⟨fun q => (b.tb.m q).ext m, b.tb.z, b.tb.t⟩⟩
/-- a table that is kept apart -/
def hidT (o : Option HO) : Bool := !Tb.T.isEmpty && (match o with
  | some (.tbl _) => true
  | _ => false)
/-- the heap without what is owned -/
def out (w : List Addr) (H : Hp) : Hp := fun a => if a ∈ w ∨ hidT (H a) = true then none else H a
theorem out_some {a : Addr} {o : HO} (h : out w H a = some o) : a ∉ w ∧ H a = some o := by
  unfold out at h
  split at h
  · cases h
  · rename_i n; exact ⟨fun q => n (.inl q), h⟩
theorem out_of {a : Addr} {o : HO} (n : a ∉ w) (nt : Tb.T ≠ [] → ∀ ps, o ≠ .tbl ps) (h : H a = some o) : out w H a = some o := by
  unfold out
  have no : ¬ (a ∈ w ∨ hidT (H a) = true) := fun q => q.elim n fun q => by
    rw [h] at q
    unfold hidT at q
    simp only [Bool.and_eq_true, Bool.not_eq_true', List.isEmpty_eq_false_iff] at q
    obtain ⟨q1, q2⟩ := q
    cases o with
    | tbl ps => exact nt q1 _ rfl
    | _ => cases q2
  rw [if_neg no]; exact h
theorem out_in {a : Addr} (h : a ∈ w) : out w H a = none := by
  unfold out
  rw [if_pos (.inl h)]
theorem out_not (q : Tb.T ≠ []) : NoT (out w H) := fun a ps e => by
  have h := (out_some e).2
  unfold out at e
  rw [if_pos (.inr (by rw [h]; unfold hidT; simp [q]))] at e
  cases e
/-- what stands in the frame is no table -/
theorem Base.ntm (b : Base M Z H w) {a : Addr} {o : HO} (h : M a = some o) : Tb.T ≠ [] → ∀ ps, o ≠ .tbl ps := fun q ps e => by subst e; exact b.tb.m q _ _ h
theorem Base.ntw (b : Base M Z H w) {a : Addr} {o : HO} (h : a ∈ w) (e : H a = some o) : Tb.T ≠ [] → ∀ ps, o ≠ .tbl ps := fun _ => by
  obtain ⟨u, e1, e2⟩ := b.hw a h
  rw [e] at e1; cases e1
  exact own_tbl e2
/-- all else as the frame -/
theorem Base.out (b : Base M Z H (fp ++ w)) : Base (out w H) Z H w := ⟨b.z, fun a h => b.zw a (List.mem_append_right _ h), fun a o h => (out_some h).2, fun a h => out_in h, (List.nodup_append.mp b.nd).2.1, fun a h => b.hw a (List.mem_append_right _ h), ⟨fun q => out_not q, b.tb.z, b.tb.t⟩⟩
theorem Base.le (b : Base M Z H (fp ++ w)) : Ext M (Rm.out w H) := fun a o h => out_of (fun q => by rw [b.mw a (List.mem_append_right _ q)] at h; cases h) (b.ntm h) (b.m a o h)
theorem Base.keep (b : Base M Z H (fp ++ w)) : ∀ a ∈ fp, ∀ o, H a = some o → Rm.out w H a = some o := fun a h o e => out_of (fun q => (List.nodup_append.mp b.nd).2.2 a h a q rfl) (b.ntw (List.mem_append_left _ h) e) e
/-- two owned parts side by side -/
theorem Base.join (b1 : Base M Z H (fp ++ w)) (b2 : Base (Rm.out w H) Z' H' (f ++ w')) (n : ZN (Rm.out w H) Z Z') : Base M Z' H' ((fp ++ f) ++ w') := by
  have kp : ∀ a ∈ fp, ∃ o, H a = some o ∧ Rm.out w H a = some o := fun a h => by
    cases y : H a with
    | none => exact absurd y (b1.hw a (List.mem_append_left _ h)).nn
    | some o => exact ⟨o, rfl, b1.keep a h o y⟩
  have dj : ∀ a ∈ fp, a ∉ f ++ w' := fun a h q => by
    obtain ⟨o, _, e⟩ := kp a h
    rw [b2.mw a q] at e; cases e
  rw [List.append_assoc]
  refine ⟨b2.z, fun a h => ?_, fun a o h => b2.m a o (b1.le a o h), fun a h => ?_, ?_, fun a h => ?_, ⟨b1.tb.m, b2.tb.z, b2.tb.t⟩⟩
  · rcases List.mem_append.mp h with h | h
    · cases y : Z' a with
      | none => rfl
      | some o =>
        obtain ⟨o', _, e⟩ := kp a h
        rcases n a (by rw [y]; exact fun z => nomatch z) with q | q
        · exact absurd (b1.zw a (List.mem_append_left _ h)) q
        · exact (q.op e (by obtain ⟨u, e1, e2⟩ := b1.hw a (List.mem_append_left _ h); have := (out_some e).2; rw [e1] at this; cases this; exact e2)).elim
    · exact b2.zw a h
  · rcases List.mem_append.mp h with h | h
    · exact b1.mw a (List.mem_append_left _ h)
    · cases y : M a with
      | none => rfl
      | some o => have q := b2.mw a h; rw [b1.le a o y] at q; cases q
  · exact List.nodup_append.mpr ⟨(List.nodup_append.mp b1.nd).1, b2.nd, fun a h b q e => dj a h (e ▸ q)⟩
  · rcases List.mem_append.mp h with h | h
    · exact (b1.hw a (List.mem_append_left _ h)).keep fun o e => b2.m a o (b1.keep a h o e)
    · exact b2.hw a h
end
structure VC where
  ca : Ks
  ef : Str → Str
def FinE (c : VC) (W : WX) (ro : Bool) (M P Z H : Hp) (σ : St) (w : List Addr) (Q : VK) : R Ent → Prop
  | .ok e ρ' => ∀ v H' Z' fp w', Ext Z Z' → ZN P Z Z' → Base P Z' H' (fp ++ w') → EntV c.ca H' Z' v e fp → Slots c.ca H' M Z' σ ρ' w' → (ro = true → Ext H H' ∧ w' = w) → Q v H'
  | .err C d ρ' => ∀ x vd H' Z' w', Ext Z Z' → ZN P Z Z' → Base P Z' H' w' → Z' x = some (.xd [(c.ef C, vd)]) → Ow c.ca H' Z' vd d [] → Slots c.ca H' M Z' σ ρ' w' → W (.ref (c.ca.cl C)) (some x) σ H'
  | .fail => False
/-- an expression's meaning -/
structure SV (c : VC) (W : WX) (ro : Bool) (t : TE) (m : List Ent → R Ent) : Prop where
  go : ∀ (M P Z H : Hp) (σ : St) (ρ : List Ent) (w : List Addr) (Q : VK), Ext M P → Base P Z H w → Slots c.ca H M Z σ ρ w → FinE c W ro M P Z H σ w Q (m ρ) → t σ H Q
inductive EntVs (ca : Ks) (H Z : Hp) : List V → List Ent → List Addr → Prop
  | nil : EntVs ca H Z [] [] []
  | cons {v : V} {vs : List V} {e : Ent} {es : List Ent} {f g : List Addr} : EntV ca H Z v e f → EntVs ca H Z vs es g → EntVs ca H Z (v :: vs) (e :: es) (f ++ g)
def FinA (c : VC) (W : WX) (ro : Bool) (M P Z H : Hp) (σ : St) (w : List Addr) (Q : List V → Hp → Prop) : R (List Ent) → Prop
  | .ok es ρ' => ∀ vs H' Z' fp w', Ext Z Z' → ZN P Z Z' → Base P Z' H' (fp ++ w') → EntVs c.ca H' Z' vs es fp → Slots c.ca H' M Z' σ ρ' w' → (ro = true → Ext H H' ∧ w' = w) → Q vs H'
  | .err C d ρ' => ∀ x vd H' Z' w', Ext Z Z' → ZN P Z Z' → Base P Z' H' w' → Z' x = some (.xd [(c.ef C, vd)]) → Ow c.ca H' Z' vd d [] → Slots c.ca H' M Z' σ ρ' w' → W (.ref (c.ca.cl C)) (some x) σ H'
  | .fail => False
structure SA (c : VC) (W : WX) (ro : Bool) (t : TA) (m : List Ent → R (List Ent)) : Prop where
  go : ∀ (M P Z H : Hp) (σ : St) (ρ : List Ent) (w : List Addr) (Q : List V → Hp → Prop), Ext M P → Base P Z H w → Slots c.ca H M Z σ ρ w → FinA c W ro M P Z H σ w Q (m ρ) → t σ H Q
section
variable {ca : Ks} {H H' H2 Z Z' Z2 M M' : Hp} {w w' fp f g : List Addr} {σ : St} {ρ : List Ent} {v : V} {e : Ent}
theorem EntV.mono (z : Ext Z Z') (hh : ∀ a ∈ fp, ∀ o, H a = some o → H' a = some o) (hx : (∃ t, e = .vw t ∧ t.isF = false) → Ext H H') (s : EntV ca H Z v e fp) : EntV ca H' Z' v e fp := by
  cases s with
  | own h => exact .own (h.mono z hh)
  | @vw t g h =>
    cases y : T.isF t with
    | true =>
      obtain rfl := Ow.nof h y
      exact .vw (g := []) (Ow.mono (H := H) z (fun a q => absurd q List.not_mem_nil) h)
    | false => exact .vw (h.mono z fun a _ o q => hx ⟨t, rfl, y⟩ a o q)
/-- kept while others are evaluated -/
def Ent.held : Ent → Bool
  | .own _ => true
  | .vw t => t.isF
  | .no => false
  | .exc _ _ => false
end
def mNil : List Ent → R (List Ent) := fun ρ => .ok [] ρ
def mCons (r : Bool) (m : List Ent → R Ent) (ms : List Ent → R (List Ent)) : List Ent → R (List Ent) := fun ρ => (m ρ).bind fun e ρ1 => if r || e.held then (ms ρ1).bind fun es ρ2 => .ok (e :: es) ρ2 else .fail
section
variable {c : VC} {W : WX} {r1 r2 : Bool} {t : TE} {ta : TA} {m : List Ent → R Ent} {ms : List Ent → R (List Ent)}
theorem SA.nil : SA c W true tNil mNil := ⟨fun M P Z H σ ρ w Q mp b s h => h [] H Z [] w (Ext.refl _) ZN.refl b .nil s fun _ => ⟨Ext.refl _, rfl⟩⟩
theorem SA.cons (h1 : SV c W r1 t m) (h2 : SA c W r2 ta ms) : SA c W (r1 && r2) (tCons t ta) (mCons r2 m ms) := by
  refine ⟨fun M P Z H σ ρ w Q mp b s h => ?_⟩
  unfold tCons
  refine h1.go M P Z H σ ρ w _ mp b s ?_
  unfold mCons at h
  cases e1 : m ρ with
  | fail => rw [e1] at h; exact h
  | err C d ρ1 =>
    rw [e1] at h
    exact h
  | ok e ρ1 =>
    rw [e1] at h
    dsimp only [R.bind] at h
    split at h
    rotate_left
    · exact h.elim
    rename_i hh
    intro v H1 Z1 fp w1 z1 n1 b1 ev s1 ro1
    refine h2.go M (Rm.out w1 H1) Z1 H1 σ ρ1 w1 _ (mp.trans b1.le) b1.out s1 ?_
    have hx : ∀ {H2 : Hp}, (r2 = true → Ext H1 H2) → (∃ t, e = .vw t ∧ t.isF = false) → Ext H1 H2 := fun k q => by
      obtain ⟨t, rfl, y⟩ := q
      refine k ?_
      cases r2
      · simp [Ent.held, y] at hh
      · rfl
    cases e2 : ms ρ1 with
    | fail => rw [e2] at h; exact h
    | err C d ρ2 =>
      rw [e2] at h
      intro x vd H2 Z2 w2 z2 n2 b2 hx2 ov s2
      exact h x vd H2 Z2 w2 (z1.trans z2) (n1.trans (n2.of b1.le)) (b2.less b1.le) hx2 ov s2
    | ok es ρ2 =>
      rw [e2] at h
      intro vs H2 Z2 fp2 w2 z2 n2 b2 evs s2 ro2
      have kf : ∀ a ∈ fp, ∀ o, H1 a = some o → H2 a = some o := fun a q o y => b2.m a o (b1.keep a q o y)
      refine h (v :: vs) H2 Z2 (fp ++ fp2) w2 (z1.trans z2) (n1.trans (n2.of b1.le)) ?_ (.cons (ev.mono z2 kf (hx fun q => (ro2 q).1)) evs) s2 fun q => ?_
      · exact Base.join b1 b2 n2
      · simp only [Bool.and_eq_true] at q
        exact ⟨(ro1 q.1).1.trans (ro2 q.2).1, (ro2 q.2).2.trans (ro1 q.1).2⟩
end
end Rm
/-! Rm, part V3: expressions by their meaning: names, operations, tests, displays, fields. -/
namespace Rm
open PySem PySem.Spec L2
open PyProof.Rows hiding St
variable [Tb]
section
variable {ca : Ks} {M P Z H H' Z' : Hp} {w fp : List Addr} {a p : Addr} {o : HO}
/-! ### new things -/
theorem Base.nin (b : Base P Z H w) (h : H p = none) : p ∉ w := fun q => (b.hw p q).nn h
theorem Base.zn (b : Base P Z H w) (h : H p = none) : Z p = none := by
  cases y : Z p with
  | none => rfl
  | some o => rw [b.z _ _ y] at h; cases h
theorem Base.mn (b : Base P Z H w) (h : H p = none) : P p = none := by
  cases y : P p with
  | none => rfl
  | some o => rw [b.m _ _ y] at h; cases h
theorem Base.ext (b : Base P Z H w) (x : Ext H H') : Base P Z H' w := ⟨fun a o q => x a o (b.z a o q), b.zw, fun a o q => x a o (b.m a o q), b.mw, b.nd, fun a q => (b.hw a q).keep (x a), ⟨b.tb.m, b.tb.z, b.tb.t.ext x⟩⟩
theorem Base.new (b : Base P Z H w) (h : H p = none) (ho : ownO o = true := by rfl) : Base P Z (upd H p o) (p :: w) := by
  have b1 := b.ext (Ext.new (o := o) h)
  refine ⟨b1.z, fun a q => ?_, b1.m, fun a q => ?_, List.nodup_cons.mpr ⟨b.nin h, b.nd⟩, fun a q => ?_, ⟨b.tb.m, b.tb.z, b.tb.t.ext (Ext.new h)⟩⟩
  · rcases List.mem_cons.mp q with rfl | q
    · exact b.zn h
    · exact b.zw a q
  · rcases List.mem_cons.mp q with rfl | q
    · exact b.mn h
    · exact b.mw a q
  · rcases List.mem_cons.mp q with rfl | q
    · exact ⟨o, upd_same, ho⟩
    · exact b1.hw a q
/-- what is new is frozen -/
theorem Base.newZ (b : Base P Z H w) (h : H p = none) (ho : ∀ ps, o ≠ .tbl ps := by exact fun _ z => nomatch z) : Base P (upd Z p o) (upd H p o) w := by
  have b1 := b.ext (Ext.new (o := o) h)
  refine ⟨fun a u q => ?_, fun a q => ?_, b1.m, b1.mw, b1.nd, b1.hw, ⟨b.tb.m, b.tb.z.upd ho, b.tb.t.ext (Ext.new h)⟩⟩
  · by_cases e : a = p
    · subst e; rw [upd_same] at q ⊢; exact q
    · rw [upd_ne e] at q ⊢; exact b.z a u q
  · have : a ≠ p := fun e => b.nin h (e ▸ q)
    rw [upd_ne this]; exact b.zw a q
theorem ZN.new (b : Base P Z H w) (h : H p = none) : ZN P Z (upd Z p o) := fun a q => by
  by_cases e : a = p
  · subst e; exact Or.inr (.of_none (b.mn h))
  · rw [upd_ne e] at q; exact Or.inl q
/-- what is owned is frozen -/
def fzZ (fp : List Addr) (H Z : Hp) : Hp := fun a => if a ∈ fp then H a else Z a
theorem fzZ_ext (b : Base P Z H (fp ++ w)) : Ext Z (fzZ fp H Z) := fun a o h => by
  unfold fzZ
  rw [if_neg (fun q => by rw [b.zw a (List.mem_append_left _ q)] at h; cases h)]; exact h
theorem fzZ_in (a : Addr) (h : a ∈ fp) : ∀ o, H a = some o → fzZ fp H Z a = some o := fun o e => by
  unfold fzZ
  rw [if_pos h]; exact e
theorem fzZ_zn (b : Base P Z H (fp ++ w)) : ZN P Z (fzZ fp H Z) := fun a h => by
  unfold fzZ at h
  split at h
  · rename_i q; exact Or.inr (.of_none (b.mw a (List.mem_append_left _ q)))
  · exact Or.inl h
theorem Base.fz (b : Base P Z H (fp ++ w)) : Base P (fzZ fp H Z) H w := ⟨fun a o h => by
  unfold fzZ at h
  split at h
  · exact h
  · exact b.z a o h, fun a h => by
  unfold fzZ
  rw [if_neg (fun q => (List.nodup_append.mp b.nd).2.2 a q a h rfl)]; exact b.zw a (List.mem_append_right _ h), b.m, fun a h => b.mw a (List.mem_append_right _ h), (List.nodup_append.mp b.nd).2.1, fun a h => b.hw a (List.mem_append_right _ h), ⟨b.tb.m, fun a ps e => by
  unfold fzZ at e
  split at e
  · rename_i q
    obtain ⟨u, e1, e2⟩ := b.hw a (List.mem_append_left _ q)
    rw [e] at e1; cases e1; cases e2
  · exact b.tb.z a ps e, b.tb.t⟩⟩
end
/-- what an operation gives -/
def Res (ca : Ks) (P Z H : Hp) (w : List Addr) (Q : VK) : Option Ent → Prop
  | some e => ∀ v H' Z' fp, Ext H H' → Ext Z Z' → ZN P Z Z' → Base P Z' H' (fp ++ w) → EntV ca H' Z' v e fp → Q v H'
  | none => False
inductive OwVs (ca : Ks) (H Z : Hp) : List V → List T → Prop
  | nil : OwVs ca H Z [] []
  | cons {v : V} {vs : List V} {t : T} {ts : List T} {g : List Addr} : Ow ca H Z v t g → OwVs ca H Z vs ts → OwVs ca H Z (v :: vs) (t :: ts)
theorem EntVs.ow {ca : Ks} {H Z : Hp} : ∀ {vs : List V} {es : List Ent} {fp : List Addr}, EntVs ca H Z vs es fp → OwVs ca H Z vs (es.map Ent.t)
  | _, _, _, .nil => .nil
  | _, _, _, .cons (.own h) A => .cons h (EntVs.ow A)
  | _, _, _, .cons (.vw h) A => .cons h (EntVs.ow A)
/-- an operation over trees -/
structure Prim (ca : Ks) (r : List V → Hp → VK → Prop) (p : List T → Option Ent) : Prop where
  go : ∀ (P Z H : Hp) (w : List Addr) (vs : List V) (ts : List T) (Q : VK), Base P Z H w → OwVs ca H Z vs ts → Res ca P Z H w Q (p ts) → r vs H Q
section
variable {ca : Ks} {P Z H : Hp} {w : List Addr} {Q : VK} {p : Addr} {xs : List V} {ts : List T}
theorem Res.now {e : Ent} {v : V} (h : Res ca P Z H w Q (some e)) (b : Base P Z H w) (ev : EntV ca H Z v e []) : Q v H := h v H Z [] (Ext.refl _) (Ext.refl _) ZN.refl b ev
theorem Res.lst (h : Res ca P Z H w Q (some (.own (.lst true ts)))) (b : Base P Z H w) (hp : H p = none) (A : OwA ca H Z xs ts []) : Q (.ref p) (upd H p (.lst xs)) :=
  h _ _ Z [p] (Ext.new hp) (Ext.refl _) ZN.refl (b.new hp) (.own (.lstO upd_same (OwA.any A)))
theorem Res.tup (h : Res ca P Z H w Q (some (.own (.tup ts)))) (b : Base P Z H w) (hp : H p = none) (A : OwA ca H Z xs ts []) : Q (.ref p) (upd H p (.tup xs)) :=
  h _ _ (upd Z p (.tup xs)) [] (Ext.new hp) (Ext.new (b.zn hp)) (ZN.new b hp) (b.newZ hp) (.own (.tup upd_same (OwA.mono (H := H) (Ext.new (b.zn hp)) (fun a q => absurd q List.not_mem_nil) A)))
end
def mPrim (p : List T → Option Ent) (ms : List Ent → R (List Ent)) : List Ent → R Ent := fun ρ => (ms ρ).bind fun es ρ' => match p (es.map Ent.t) with
  | some e => .ok e ρ'
  | none => .fail
section
variable {c : VC} {W : WX} {r1 r2 r3 : Bool} {t t1 t2 t3 : TE} {ta : TA} {m m1 m2 m3 : List Ent → R Ent} {ms : List Ent → R (List Ent)}
theorem SA.prim {r : List V → Hp → VK → Prop} {p : List T → Option Ent} (pr : Prim c.ca r p) (h : SA c W r1 ta ms) : SV c W r1 (fun σ H Q => ta σ H fun vs H1 => r vs H1 Q) (mPrim p ms) := by
  refine ⟨fun M P Z H σ ρ w Q mp b s hf => ?_⟩
  refine h.go M P Z H σ ρ w _ mp b s ?_
  unfold mPrim at hf
  cases e : ms ρ with
  | fail => rw [e] at hf; exact hf
  | err C d ρ' => rw [e] at hf; exact hf
  | ok es ρ' =>
    rw [e] at hf
    dsimp only [R.bind] at hf
    intro vs H1 Z1 fp w1 z1 n1 b1 ev s1 ro
    refine pr.go P Z1 H1 w1 vs _ Q b1.drop ev.ow ?_
    split at hf
    · rename_i e2 q
      rw [q]
      intro v H2 Z2 fp2 x2 z2 n2 b2 ev2
      exact hf v H2 Z2 fp2 w1 (z1.trans z2) (n1.trans n2) b2 ev2 (s1.mono z2 fun a q o y => x2 a o y) fun q => ⟨(ro q).1.trans x2, (ro q).2⟩
    · exact hf.elim
def r2L (r : R2) : List V → Hp → VK → Prop := fun vs H Q => match vs with
  | [x, y] => r x y H Q
  | _ => False
def r1L (r : V → Hp → VK → Prop) : List V → Hp → VK → Prop := fun vs H Q => match vs with
  | [x] => r x H Q
  | _ => False
def mOp (p : List T → Option Ent) (r2 : Bool) (m1 m2 : List Ent → R Ent) : List Ent → R Ent := mPrim p (mCons r2 m1 (mCons true m2 mNil))
theorem SV.op {r : R2} {p : List T → Option Ent} (pr : Prim c.ca (r2L r) p) (h1 : SV c W r1 t1 m1) (h2 : SV c W r2 t2 m2) : SV c W (r1 && r2) (tOp r t1 t2) (mOp p r2 m1 m2) := by
  have q := SA.prim pr (SA.cons h1 (SA.cons h2 SA.nil))
  rw [Bool.and_true] at q
  exact q
theorem SV.un {r : V → Hp → VK → Prop} {p : List T → Option Ent} (pr : Prim c.ca (r1L r) p) (h1 : SV c W r1 t1 m1) : SV c W r1 (tUn r t1) (mPrim p (mCons true m1 mNil)) := by
  have q := SA.prim pr (SA.cons h1 SA.nil)
  rw [Bool.and_true] at q
  exact q
/-! names, constants -/
def mName (i : Nat) : List Ent → R Ent := fun ρ => match ρ[i]? with
  | some (.own t) => .ok (.vw t) ρ
  | some (.vw t) => .ok (.vw t) ρ
  | _ => .fail
theorem sv_name {i : Nat} : SV c W true (tV i) (mName i) := by
  refine ⟨fun M P Z H σ ρ w Q mp b s hf => ?_⟩
  unfold mName at hf
  unfold tV
  split at hf
  · rename_i t e
    obtain ⟨x, l, f, r, e1, e2, sl, _⟩ := s.split e
    cases sl with
    | own h =>
      rw [e1]
      exact hf _ H Z [] w (Ext.refl _) ZN.refl b (.vw h) s fun _ => ⟨Ext.refl _, rfl⟩
  · rename_i t e
    obtain ⟨x, l, f, r, e1, e2, sl, _⟩ := s.split e
    cases sl with
    | vw h =>
      rw [e1]
      exact hf _ H Z [] w (Ext.refl _) ZN.refl b (.vw (h.mono (Ext.refl _) fun a _ o y => b.m a o (mp a o y))) s fun _ => ⟨Ext.refl _, rfl⟩
  · exact hf.elim
def mC (t : T) : List Ent → R Ent := fun ρ => .ok (.own t) ρ
theorem sv_c {v : V} {t : T} (h : ∀ (ca : Ks) (H Z : Hp), Ow ca H Z v t []) : SV c W true (tC v) (mC t) :=
  ⟨fun M P Z H σ ρ w Q mp b s hf => hf v H Z [] w (Ext.refl _) ZN.refl b (.own (h _ _ _)) s fun _ => ⟨Ext.refl _, rfl⟩⟩
/-! a frozen copy of what is at hand: an own tree is frozen -/
def Ent.fz : Ent → Option T
  | .own t => some t.frz
  | .vw t => if t.isF = true then some t else none
  | .no => none
  | .exc _ _ => none
def fzAll : List Ent → Option (List T)
  | [] => some []
  | e :: es => match e.fz, fzAll es with
    | some t, some ts => some (t :: ts)
    | _, _ => none
end
section
variable {ca : Ks} {P Z H : Hp} {w : List Addr}
theorem EntV.fz {v : V} {e : Ent} {fp : List Addr} {t : T} {Z' : Hp} (z : Ext Z Z') (hz : ∀ a ∈ fp, ∀ o, H a = some o → Z' a = some o) (h : EntV ca H Z v e fp) (q : e.fz = some t) : Ow ca H Z' v t [] := by
  cases h with
  | own h => cases q; exact h.frz z hz
  | @vw t' g h =>
    have q' : (if t'.isF = true then some t' else none) = some t := q
    split at q'
    · rename_i y
      cases q'
      obtain rfl := h.nof y
      exact Ow.mono (H := H) z (fun a q => absurd q List.not_mem_nil) h
    · cases q'
theorem EntVs.fz {Z' : Hp} (z : Ext Z Z') : ∀ {vs : List V} {es : List Ent} {fp : List Addr} {ts : List T}, (∀ a ∈ fp, ∀ o, H a = some o → Z' a = some o) → EntVs ca H Z vs es fp → fzAll es = some ts → OwA ca H Z' vs ts []
  | _, _, _, _, _, .nil, q => by cases q; exact .nil
  | _, _, _, _, hz, .cons h A, q => by
    unfold fzAll at q
    split at q
    · rename_i t ts q1 q2
      cases q
      exact .cons (f := []) (g := []) (h.fz z (fun a y => hz a (List.mem_append_left _ y)) q1) (EntVs.fz z (fun a y => hz a (List.mem_append_right _ y)) A q2)
    · cases q
end
def mSeq (tp : Bool) (ms : List Ent → R (List Ent)) : List Ent → R Ent := fun ρ => (ms ρ).bind fun es ρ' => match fzAll es with
  | some ts => if ts.length ≤ sizeLine then .ok (.own (if tp then .tup ts else .lst true ts)) ρ' else .fail
  | none => .fail
section
variable {c : VC} {W : WX} {r1 r2 r3 : Bool} {t t1 t2 t3 : TE} {ta : TA} {m m1 m2 m3 : List Ent → R Ent} {ms : List Ent → R (List Ent)}
theorem SA.seq (tp : Bool) (h : SA c W r1 ta ms) : SV c W r1 (if tp then tTup ta else tLst ta) (mSeq tp ms) := by
  refine ⟨fun M P Z H σ ρ w Q mp b s hf => ?_⟩
  have go : ta σ H fun xs H1 => xs.length ≤ sizeLine ∧ ∀ p, H1 p = none → Q (.ref p) (upd H1 p (if tp then .tup xs else .lst xs)) := by
    refine h.go M P Z H σ ρ w _ mp b s ?_
    unfold mSeq at hf
    cases e : ms ρ with
    | fail => rw [e] at hf; exact hf
    | err C d ρ' => rw [e] at hf; exact hf
    | ok es ρ' =>
      rw [e] at hf
      dsimp only [R.bind] at hf
      intro vs H1 Z1 fp w1 z1 n1 b1 ev s1 ro
      split at hf
      · rename_i ts q
        have A := ev.fz (Z' := fzZ fp H1 Z1) (fzZ_ext b1) (fun a y => fzZ_in a y) q
        have b2 := b1.fz
        have z2 := z1.trans (fzZ_ext b1)
        have n2 := n1.trans (fzZ_zn b1)
        have hl := A.length
        split at hf
        · rename_i hz
          refine ⟨by omega, fun p hp => ?_⟩
          have s2 := s1.mono (fzZ_ext b1) (fun a q o y => Ext.new (o := if tp = true then HO.tup vs else HO.lst vs) hp a o y)
          cases tp with
          | true =>
            exact hf _ _ (upd (fzZ fp H1 Z1) p (.tup vs)) [] w1 (z2.trans (Ext.new (b2.zn hp))) (n2.trans (ZN.new b2 hp)) (b2.newZ hp) (.own (.tup upd_same (OwA.mono (H := H1) (Ext.new (b2.zn hp)) (fun a q => absurd q List.not_mem_nil) A)))
              (s2.mono (Ext.new (b2.zn hp)) fun _ _ _ y => y) fun q => ⟨(ro q).1.trans (Ext.new hp), (ro q).2⟩
          | false =>
            exact hf _ _ (fzZ fp H1 Z1) [p] w1 z2 n2 (b2.new hp) (.own (.lstO upd_same (OwA.any A))) s2 fun q => ⟨(ro q).1.trans (Ext.new hp), (ro q).2⟩
        · exact hf.elim
      · exact hf.elim
  cases tp with
  | true => exact go
  | false => exact go
end
/-! ### tests -/
def FinT (c : VC) (W : WX) (ro : Bool) (M P Z H : Hp) (σ : St) (w : List Addr) (Q : Bool → Hp → Prop) : R Bool → Prop
  | .ok k ρ' => ∀ H' Z' w', Ext Z Z' → ZN P Z Z' → Base P Z' H' w' → Slots c.ca H' M Z' σ ρ' w' → (ro = true → Ext H H' ∧ w' = w) → Q k H'
  | .err C d ρ' => ∀ x vd H' Z' w', Ext Z Z' → ZN P Z Z' → Base P Z' H' w' → Z' x = some (.xd [(c.ef C, vd)]) → Ow c.ca H' Z' vd d [] → Slots c.ca H' M Z' σ ρ' w' → W (.ref (c.ca.cl C)) (some x) σ H'
  | .fail => False
structure ST (c : VC) (W : WX) (ro : Bool) (t : TT) (m : List Ent → R Bool) : Prop where
  go : ∀ (M P Z H : Hp) (σ : St) (ρ : List Ent) (w : List Addr) (Q : Bool → Hp → Prop), Ext M P → Base P Z H w → Slots c.ca H M Z σ ρ w → FinT c W ro M P Z H σ w Q (m ρ) → t σ H Q
def T.bool : T → Option Bool
  | .bl k => some k
  | _ => none
/-- what a value is as a test -/
def T.tru : T → Option Bool
  | .non => some false
  | .bl k => some k
  | .int i => some (i != 0)
  | .tup ts => some (!ts.isEmpty)
  | .lst _ ts => some (!ts.isEmpty)
  | _ => none
def mTest (f : T → Option Bool) (m : List Ent → R Ent) : List Ent → R Bool := fun ρ => (m ρ).bind fun e ρ' => match f e.t with
  | some k => .ok k ρ'
  | none => .fail
/-- one way or the other -/
def mBr {α : Type} (mt : List Ent → R Bool) (m1 m2 : List Ent → R α) : List Ent → R α := fun ρ => (mt ρ).bind fun k ρ' => if k = true then m1 ρ' else m2 ρ'
def mPure {α : Type} (a : α) : List Ent → R α := fun ρ => .ok a ρ
section
variable {c : VC} {W : WX} {r1 r2 r3 : Bool} {t t1 t2 t3 : TE} {tt tt1 tt2 : TT} {ta : TA} {m m1 m2 m3 : List Ent → R Ent} {mt mt1 mt2 : List Ent → R Bool} {ms : List Ent → R (List Ent)}
theorem OwA.isEmpty {ca : Ks} {H Z : Hp} {vs : List V} {ts : List T} {fp : List Addr} (A : OwA ca H Z vs ts fp) : vs.isEmpty = ts.isEmpty := by
  have := A.length
  cases vs <;> cases ts <;> first | rfl | (simp at this)
theorem EntV.ow {ca : Ks} {H Z : Hp} {v : V} {e : Ent} {fp : List Addr} (h : EntV ca H Z v e fp) : ∃ g, Ow ca H Z v e.t g := by
  cases h with
  | own h => exact ⟨_, h⟩
  | vw h => exact ⟨_, h⟩
theorem SV.test (h : SV c W r1 t m) : ST c W r1 (tTest t) (mTest T.bool m) := by
  refine ⟨fun M P Z H σ ρ w Q mp b s hf => ?_⟩
  refine h.go M P Z H σ ρ w _ mp b s ?_
  unfold mTest at hf
  cases e : m ρ with
  | fail => rw [e] at hf; exact hf
  | err C d ρ' => rw [e] at hf; exact hf
  | ok en ρ' =>
    rw [e] at hf
    dsimp only [R.bind] at hf
    intro v H1 Z1 fp w1 z1 n1 b1 ev s1 ro
    obtain ⟨g, o⟩ := ev.ow
    split at hf
    · rename_i k q
      unfold T.bool at q
      split at q
      · rename_i k' y
        cases q
        rw [y] at o
        cases o
        exact ⟨k, rfl, hf H1 Z1 w1 z1 n1 b1.drop s1 ro⟩
      · cases q
    · exact hf.elim
theorem SV.truth (h : SV c W r1 t m) : ST c W r1 (tTru t) (mTest T.tru m) := by
  refine ⟨fun M P Z H σ ρ w Q mp b s hf => ?_⟩
  refine h.go M P Z H σ ρ w _ mp b s ?_
  unfold mTest at hf
  cases e : m ρ with
  | fail => rw [e] at hf; exact hf
  | err C d ρ' => rw [e] at hf; exact hf
  | ok en ρ' =>
    rw [e] at hf
    dsimp only [R.bind] at hf
    intro v H1 Z1 fp w1 z1 n1 b1 ev s1 ro
    obtain ⟨g, o⟩ := ev.ow
    split at hf
    · rename_i k q
      have fin := hf H1 Z1 w1 z1 n1 b1.drop s1 ro
      have key : truN v H1 = some k := by
        generalize en.t = tr at o q
        cases o with
        | non => exact q
        | bl k => exact q
        | int i => exact q
        | str x => cases q
        | tup e A =>
          simp only [T.tru, Option.some.injEq] at q
          simp only [truN, rdo_of (b1.z _ _ e) (fun _ _ y => nomatch y), ← q, A.isEmpty]
        | lstF e A =>
          simp only [T.tru, Option.some.injEq] at q
          simp only [truN, rdo_of (b1.z _ _ e) (fun _ _ y => nomatch y), ← q, A.isEmpty]
        | lstO e A =>
          simp only [T.tru, Option.some.injEq] at q
          simp only [truN, rdo_of e (fun _ _ y => nomatch y), ← q, A.isEmpty]
        | @dctF a ks ps e k A => cases q
        | @dctO a ks ps fp e k A _ => cases q
        | dtpF e k A => cases q
        | dtpO e k A _ => cases q
        | insF e k A => cases q
        | insO e k A _ => cases q
        | scr e A => cases q
      simp only [key]
      exact fin
    · exact hf.elim
theorem FinE.go {M P Z Z1 H H1 : Hp} {σ : St} {w w1 : List Addr} {Q : VK} {x : R Ent} {r rr : Bool} (z1 : Ext Z Z1) (n1 : ZN P Z Z1) (ro1 : r1 = true → Ext H H1 ∧ w1 = w) (hq : r = true → r1 = true ∧ rr = true) (hf : FinE c W r M P Z H σ w Q x) : FinE c W rr M P Z1 H1 σ w1 Q x := by
  cases x with
  | fail => exact hf
  | err C d ρ2 => exact fun x vd H2 Z2 w2 z2 n2 => hf x vd H2 Z2 w2 (z1.trans z2) (n1.trans n2)
  | ok k2 ρ2 => exact fun v H2 Z2 fp w2 z2 n2 b2 ev s2 ro2 => hf v H2 Z2 fp w2 (z1.trans z2) (n1.trans n2) b2 ev s2 fun q => ⟨(ro1 (hq q).1).1.trans (ro2 (hq q).2).1, (ro2 (hq q).2).2.trans (ro1 (hq q).1).2⟩
theorem FinT.go {M P Z Z1 H H1 : Hp} {σ : St} {w w1 : List Addr} {Q : Bool → Hp → Prop} {x : R Bool} {r rr : Bool} (z1 : Ext Z Z1) (n1 : ZN P Z Z1) (ro1 : r1 = true → Ext H H1 ∧ w1 = w) (hq : r = true → r1 = true ∧ rr = true) (hf : FinT c W r M P Z H σ w Q x) : FinT c W rr M P Z1 H1 σ w1 Q x := by
  cases x with
  | fail => exact hf
  | err C d ρ2 => exact fun x vd H2 Z2 w2 z2 n2 => hf x vd H2 Z2 w2 (z1.trans z2) (n1.trans n2)
  | ok k2 ρ2 => exact fun H2 Z2 w2 z2 n2 b2 s2 ro2 => hf H2 Z2 w2 (z1.trans z2) (n1.trans n2) b2 s2 fun q => ⟨(ro1 (hq q).1).1.trans (ro2 (hq q).2).1, (ro2 (hq q).2).2.trans (ro1 (hq q).1).2⟩
theorem ST.and (h1 : ST c W r1 tt1 mt1) (h2 : ST c W r2 tt2 mt2) : ST c W (r1 && r2) (tAnd tt1 tt2) (mBr mt1 mt2 (mPure false)) := by
  refine ⟨fun M P Z H σ ρ w Q mp b s hf => ?_⟩
  refine h1.go M P Z H σ ρ w _ mp b s ?_
  unfold mBr at hf
  cases e : mt1 ρ with
  | fail => rw [e] at hf; exact hf
  | err C d ρ' => rw [e] at hf; exact hf
  | ok k ρ' =>
    rw [e] at hf
    dsimp only [R.bind] at hf
    intro H1 Z1 w1 z1 n1 b1 s1 ro1
    cases k with
    | false => exact hf H1 Z1 w1 z1 n1 b1 s1 fun q => ro1 (Bool.and_eq_true_iff.mp q).1
    | true =>
      refine h2.go M P Z1 H1 σ ρ' w1 Q mp b1 s1 ?_
      simp only [if_true] at hf
      exact FinT.go z1 n1 ro1 (fun q => Bool.and_eq_true_iff.mp q) hf
theorem ST.or (h1 : ST c W r1 tt1 mt1) (h2 : ST c W r2 tt2 mt2) : ST c W (r1 && r2) (tOr tt1 tt2) (mBr mt1 (mPure true) mt2) := by
  refine ⟨fun M P Z H σ ρ w Q mp b s hf => ?_⟩
  refine h1.go M P Z H σ ρ w _ mp b s ?_
  unfold mBr at hf
  cases e : mt1 ρ with
  | fail => rw [e] at hf; exact hf
  | err C d ρ' => rw [e] at hf; exact hf
  | ok k ρ' =>
    rw [e] at hf
    dsimp only [R.bind] at hf
    intro H1 Z1 w1 z1 n1 b1 s1 ro1
    cases k with
    | true => exact hf H1 Z1 w1 z1 n1 b1 s1 fun q => ro1 (Bool.and_eq_true_iff.mp q).1
    | false =>
      refine h2.go M P Z1 H1 σ ρ' w1 Q mp b1 s1 ?_
      simp only [Bool.false_eq_true, if_false] at hf
      exact FinT.go z1 n1 ro1 (fun q => Bool.and_eq_true_iff.mp q) hf
theorem ST.not (h1 : ST c W r1 tt1 mt1) : ST c W r1 (tNot tt1) (mBr mt1 (mPure false) (mPure true)) := by
  refine ⟨fun M P Z H σ ρ w Q mp b s hf => ?_⟩
  refine h1.go M P Z H σ ρ w _ mp b s ?_
  unfold mBr at hf
  cases e : mt1 ρ with
  | fail => rw [e] at hf; exact hf
  | err C d ρ' => rw [e] at hf; exact hf
  | ok k ρ' =>
    rw [e] at hf
    dsimp only [R.bind] at hf
    cases k with
    | true => exact hf
    | false => exact hf
/-- a value by a test -/
theorem ST.ife (h : ST c W r1 tt mt) (h1 : SV c W r2 t1 m1) (h2 : SV c W r3 t2 m2) : SV c W (r1 && (r2 && r3)) (tIf tt t1 t2) (mBr mt m1 m2) := by
  refine ⟨fun M P Z H σ ρ w Q mp b s hf => ?_⟩
  refine h.go M P Z H σ ρ w _ mp b s ?_
  unfold mBr at hf
  cases e : mt ρ with
  | fail => rw [e] at hf; exact hf
  | err C d ρ' => rw [e] at hf; exact hf
  | ok k ρ' =>
    rw [e] at hf
    dsimp only [R.bind] at hf
    intro H1 Z1 w1 z1 n1 b1 s1 ro1
    cases k with
    | true => exact h1.go M P Z1 H1 σ ρ' w1 Q mp b1 s1 (FinE.go z1 n1 ro1 (fun q => by simp only [Bool.and_eq_true] at q; exact ⟨q.1, q.2.1⟩) hf)
    | false => exact h2.go M P Z1 H1 σ ρ' w1 Q mp b1 s1 (FinE.go z1 n1 ro1 (fun q => by simp only [Bool.and_eq_true] at q; exact ⟨q.1, q.2.2⟩) hf)
/-- a and b, a or b, not a, as values -/
def mBool (m : List Ent → R Ent) : List Ent → R Bool := mTest T.bool m
theorem SV.and (h1 : SV c W r1 t1 m1) (h2 : SV c W r2 t2 m2) : SV c W (r1 && r2) (tAndV t1 t2) (mBr (mBool m1) m2 (mC (.bl false))) := by
  have q := ST.ife (SV.test h1) h2 (sv_c (c := c) (W := W) (v := .bl false) fun _ _ _ => .bl false)
  rw [Bool.and_true] at q
  refine ⟨fun M P Z H σ ρ w Q mp b s hf => ?_⟩
  exact q.go M P Z H σ ρ w Q mp b s hf
theorem SV.not (h1 : SV c W r1 t1 m1) : SV c W r1 (tNotV t1) (mBr (mBool m1) (mC (.bl false)) (mC (.bl true))) := by
  have q := ST.ife (SV.test h1) (sv_c (c := c) (W := W) (v := .bl false) fun _ _ _ => .bl false) (sv_c (c := c) (W := W) (v := .bl true) fun _ _ _ => .bl true)
  rw [Bool.and_true, Bool.and_true] at q
  refine ⟨fun M P Z H σ ρ w Q mp b s hf => ?_⟩
  have z := q.go M P Z H σ ρ w Q mp b s hf
  have e : tIf (tTest t1) (tC (.bl false)) (tC (.bl true)) σ H Q = tNotV t1 σ H Q := by
    unfold tIf tTest tNotV tC
    congr 1
    funext x H1
    apply propext
    constructor
    · rintro ⟨k, rfl, h⟩
      refine ⟨k, rfl, ?_⟩
      cases k <;> exact h
    · rintro ⟨k, rfl, h⟩
      refine ⟨k, rfl, ?_⟩
      cases k <;> exact h
  rw [← e]
  exact z
/-- a op b op' c -/
def mChain (p p' : List T → Option Ent) (r2 : Bool) (m1 m2 m3 : List Ent → R Ent) : List Ent → R Ent := fun ρ => (mCons r2 m1 (mCons true m2 mNil) ρ).bind fun es ρ1 => match es with
  | [e1, e2] => (match p [e1.t, e2.t] with
    | some (.own (.bl true)) => if e2.held = true then (m3 ρ1).bind fun e3 ρ2 => (match p' [e2.t, e3.t] with
      | some e => .ok e ρ2
      | none => .fail) else .fail
    | some (.own (.bl false)) => .ok (.own (.bl false)) ρ1
    | _ => .fail)
  | _ => .fail
end
end Rm
/-! Rm, part V4: operations over trees. -/
namespace Rm
open PySem PySem.Spec L2
open PyProof.Rows hiding St
variable [Tb]
section
variable {ca : Ks} {P Z H : Hp} {w : List Addr} {Q : VK} {v : V} {i : Int} {k : Bool} {x : Str} {a p : Addr} {xs : List V} {ts : List T} {g fp : List Addr} {t : T}
theorem ow_int (h : Ow ca H Z v (.int i) g) : v = .int i := by cases h; rfl
theorem ow_bl (h : Ow ca H Z v (.bl k) g) : v = .bl k := by cases h; rfl
theorem ow_str (h : Ow ca H Z v (.str x) g) : v = .str x := by cases h; rfl
theorem ow_non (h : Ow ca H Z v .non g) : v = .non := by cases h; rfl
theorem ow_tup (b : Base P Z H w) (h : Ow ca H Z v (.tup ts) g) : ∃ a xs, v = .ref a ∧ H a = some (.tup xs) ∧ Z a = some (.tup xs) ∧ OwA ca H Z xs ts [] := by
  cases h with
  | tup e A => exact ⟨_, _, rfl, b.z _ _ e, e, A⟩
theorem ow_lst (b : Base P Z H w) {o : Bool} (h : Ow ca H Z v (.lst o ts) g) : ∃ a xs f, v = .ref a ∧ H a = some (.lst xs) ∧ OwA ca H Z xs ts f := by
  cases h with
  | lstF e A => exact ⟨_, _, _, rfl, b.z _ _ e, A⟩
  | lstO e A => exact ⟨_, _, _, rfl, e, A⟩
theorem ow_dct (b : Base P Z H w) {o : Bool} {ps : List (Key × T)} (h : Ow ca H Z v (.dct o ps) g) : ∃ a ks f, v = .ref a ∧ rdo H a = some (.dK ks) ∧ ks.map (·.1) = ps.map (·.1) ∧ OwA ca H Z (ks.map (·.2)) (ps.map (·.2)) f := by
  cases h with
  | dctF e k A => exact ⟨_, _, _, rfl, b.z.o e, k, A⟩
  | dctO e k A _ => exact ⟨_, _, _, rfl, e, k, A⟩
theorem ow_dtp (b : Base P Z H w) {o : Bool} {ks : List (List Key)} {ts : List T} (h : Ow ca H Z v (.dtp o ks ts) g) : ∃ a kvs f, v = .ref a ∧ rdo H a = some (.dT kvs) ∧ kvs.map (·.1) = ks ∧ OwA ca H Z (kvs.map (·.2)) ts f := by
  cases h with
  | dtpF e k A => exact ⟨_, _, _, rfl, b.z.o e, k, A⟩
  | dtpO e k A _ => exact ⟨_, _, _, rfl, e, k, A⟩
theorem ow_scr (b : Base P Z H w) (h : Ow ca H Z v (.scr ts) g) : ∃ a xs, v = .ref a ∧ rdo H a = some (.lst xs) ∧ OwA ca H Z xs ts [] := by
  cases h with
  | scr e A => exact ⟨_, _, rfl, b.z.o e, A⟩
theorem OwA.get : ∀ {xs : List V} {ts : List T} {g : List Addr} {i : Nat} {t : T}, OwA ca H Z xs ts g → ts[i]? = some t → ∃ v f, xs[i]? = some v ∧ Ow ca H Z v t f
  | _, _, _, _, _, .nil, e => by simp at e
  | _, _, _, 0, _, .cons h A, e => by simp at e; subst e; exact ⟨_, _, rfl, h⟩
  | _, _, _, i + 1, _, .cons h A, e => by
    simp at e
    obtain ⟨v, f, q, o⟩ := OwA.get A e
    exact ⟨v, f, by simpa using q, o⟩
/-- items that are frozen -/
theorem OwA.froz (A : OwA ca H Z xs ts g) (h : T.isFA ts = true) : OwA ca H Z xs ts [] := by
  obtain rfl := A.nof h
  exact A
theorem OwA.app : ∀ {xs ys : List V} {ts us : List T}, OwA ca H Z xs ts [] → OwA ca H Z ys us [] → OwA ca H Z (xs ++ ys) (ts ++ us) [] := by
  intro xs
  induction xs with
  | nil => intro ys ts us A B; cases A; exact B
  | cons x xs ih =>
    intro ys ts us A B
    generalize hg : ([] : List Addr) = g0 at A
    cases A with
    | @cons _ _ t ts f g h A =>
      obtain ⟨rfl, rfl⟩ := List.append_eq_nil_iff.mp hg.symm
      exact .cons (f := []) (g := []) h (ih A B)
theorem OwA.cons0 {t : T} (A : OwA ca H Z xs ts []) (h : Ow ca H Z v t []) : OwA ca H Z (v :: xs) (t :: ts) [] := .cons (f := []) (g := []) h A
theorem OwA.inv0 {y : V} (A : OwA ca H Z (y :: xs) ts []) : ∃ t r, ts = t :: r ∧ Ow ca H Z y t [] ∧ OwA ca H Z xs r [] := by
  generalize hg : ([] : List Addr) = g0 at A
  cases A with
  | cons h A =>
    obtain ⟨rfl, rfl⟩ := List.append_eq_nil_iff.mp hg.symm
    exact ⟨_, _, rfl, h, A⟩
theorem OwA.take0 : ∀ {xs : List V} {ts : List T} (n : Nat), OwA ca H Z xs ts [] → OwA ca H Z (xs.take n) (ts.take n) []
  | _, _, 0, _ => .nil
  | [], _, n + 1, A => by cases A; exact .nil
  | x :: xs, _, n + 1, A => by
    obtain ⟨t, r, rfl, h, A⟩ := A.inv0
    exact (OwA.take0 n A).cons0 h
theorem OwA.drop0 : ∀ {xs : List V} {ts : List T} (n : Nat), OwA ca H Z xs ts [] → OwA ca H Z (xs.drop n) (ts.drop n) []
  | _, _, 0, A => A
  | [], _, n + 1, A => by cases A; exact .nil
  | x :: xs, _, n + 1, A => by
    obtain ⟨t, r, rfl, h, A⟩ := A.inv0
    exact OwA.drop0 n A
theorem OwVs.i1 {vs : List V} {t : T} (h : OwVs ca H Z vs [t]) : ∃ v g, vs = [v] ∧ Ow ca H Z v t g := by
  cases h with
  | cons h A => cases A; exact ⟨_, _, rfl, h⟩
theorem OwVs.i2 {vs : List V} {t u : T} (h : OwVs ca H Z vs [t, u]) : ∃ v g y f, vs = [v, y] ∧ Ow ca H Z v t g ∧ Ow ca H Z y u f := by
  cases h with
  | cons h A =>
    obtain ⟨y, f, rfl, q⟩ := A.i1
    exact ⟨_, _, _, _, rfl, h, q⟩
end
abbrev oI (i : Int) : Option Ent := some (.own (.int i))
abbrev oB (k : Bool) : Option Ent := some (.own (.bl k))
abbrev oS (x : Str) : Option Ent := some (.own (.str x))
/-! ### arithmetic -/
def pAdd : List T → Option Ent := fun ts => match ts with
  | [.int i, .int j] => oI (i + j)
  | [.int i, .bl k] => oI (i + b2i k)
  | [.str i, .str j] => if i.length + j.length ≤ sizeLine then oS (i ++ j) else none
  | [.lst _ xs, .lst _ ys] => if (T.isFA xs && T.isFA ys) = true ∧ xs.length + ys.length ≤ sizeLine then some (.own (.lst true (xs ++ ys))) else none
  | [.tup xs, .tup ys] => if xs.length + ys.length ≤ sizeLine then some (.own (.tup (xs ++ ys))) else none
  | _ => none
theorem pr_add {ca : Ks} : Prim ca (r2L rAdd) pAdd := ⟨fun P Z H w vs ts Q b o h => by
  unfold pAdd at h
  split at h
  · obtain ⟨x, g, y, f, rfl, h1, h2⟩ := o.i2
    obtain rfl := ow_int h1; obtain rfl := ow_int h2
    exact h.now b (.own (.int _))
  · obtain ⟨x, g, y, f, rfl, h1, h2⟩ := o.i2
    obtain rfl := ow_int h1; obtain rfl := ow_bl h2
    exact h.now b (.own (.int _))
  · obtain ⟨x, g, y, f, rfl, h1, h2⟩ := o.i2
    obtain rfl := ow_str h1; obtain rfl := ow_str h2
    split at h
    · rename_i hl
      exact ⟨hl, h.now b (.own (.str _))⟩
    · exact h.elim
  · obtain ⟨x, g, y, f, rfl, h1, h2⟩ := o.i2
    obtain ⟨a, us, _, rfl, e1, A1⟩ := ow_lst b h1
    obtain ⟨a', us', _, rfl, e2, A2⟩ := ow_lst b h2
    split at h
    · rename_i hl
      obtain ⟨hf, hl⟩ := hl
      simp only [Bool.and_eq_true] at hf
      simp only [r2L, rAdd, e1, e2]
      rw [← A1.length, ← A2.length] at hl
      exact ⟨hl, fun p hp => Res.lst h b hp ((A1.froz hf.1).app (A2.froz hf.2))⟩
    · exact h.elim
  · obtain ⟨x, g, y, f, rfl, h1, h2⟩ := o.i2
    obtain ⟨a, us, rfl, e1, z1, A1⟩ := ow_tup b h1
    obtain ⟨a', us', rfl, e2, z2, A2⟩ := ow_tup b h2
    split at h
    · rename_i hl
      simp only [r2L, rAdd, e1, e2]
      rw [← A1.length, ← A2.length] at hl
      refine ⟨hl, fun e => ?_, fun _ e => ?_, fun _ _ p hp => Res.tup h b hp (A1.app A2)⟩
      · subst e
        cases A1
        exact h.now b (.own (.tup z2 A2))
      · subst e
        cases A2
        rw [List.append_nil] at h
        exact h.now b (.own (.tup z1 A1))
    · exact h.elim
  · exact h.elim⟩
def pSub : List T → Option Ent := fun ts => match ts with
  | [.int i, .int j] => oI (i - j)
  | _ => none
theorem pr_sub {ca : Ks} : Prim ca (r2L rSub) pSub := ⟨fun P Z H w vs ts Q b o h => by
  unfold pSub at h
  split at h
  · obtain ⟨x, g, y, f, rfl, h1, h2⟩ := o.i2
    obtain rfl := ow_int h1; obtain rfl := ow_int h2
    exact h.now b (.own (.int _))
  · exact h.elim⟩
def mulB (i j : Int) : Bool := decide (Builtin.Int.intBits i ≤ 64) || decide (Builtin.Int.intBits j ≤ 64) || decide (Builtin.Int.intBits i + Builtin.Int.intBits j ≤ 134217727)
theorem mulB_ok {i j : Int} (h : mulB i j = true) : IntMulOk i j := by
  simp only [mulB, Bool.or_eq_true, decide_eq_true_eq] at h
  rcases h with (h | h) | h
  · exact .of_left h
  · exact .of_right h
  · intro c
    have c2 := (Bool.and_eq_true_iff.mp c).2
    unfold Builtin.Int.intTooBig at c2
    have c3 := of_decide_eq_true c2
    rw [show bitsLine = 134217728 from by decide] at c3
    omega
/-- a bound that stays stuck where its number is stuck (a comparison of whole numbers would count down from 2 ^ 62) -/
def okR : Int → Bool
  | .ofNat m => Nat.ble m 1152921504606846975
  | .negSucc m => Nat.ble m 1152921504606846975
theorem okR_le {n : Int} (h : okR n = true) : -(2 ^ 62) ≤ n ∧ n < 2 ^ 62 := by
  cases n with
  | ofNat m =>
    have h2 : m ≤ 1152921504606846975 := Nat.le_of_ble_eq_true h
    simp only [Int.ofNat_eq_natCast]
    omega
  | negSucc m =>
    have h2 : m ≤ 1152921504606846975 := Nat.le_of_ble_eq_true h
    omega
theorem okR_of {n : Int} (h : -1000000000000 ≤ n ∧ n ≤ 1000000000000) : okR n = true := by
  cases n with
  | ofNat m =>
    refine Nat.ble_eq_true_of_le ?_
    simp only [Int.ofNat_eq_natCast] at h
    omega
  | negSucc m => refine Nat.ble_eq_true_of_le ?_; omega
def pMul : List T → Option Ent := fun ts => match ts with
  | [.int i, .int j] => if mulB i j = true then oI (i * j) else none
  | [.str z, .int k] => if k = 0 ∨ k = 1 then oS (if k = 1 then z else Str.empty) else none
  | [.lst _ xs, .int k] => if T.isFA xs = true ∧ (okR k = true ∧ xs.length * k.toNat ≤ sizeLine) then some (.own (.lst true (List.replicate k.toNat xs).flatten)) else none
  | _ => none
theorem OwA.rep {ca : Ks} {H Z : Hp} {xs : List V} {ts : List T} (A : OwA ca H Z xs ts []) : ∀ n : Nat, OwA ca H Z (List.replicate n xs).flatten (List.replicate n ts).flatten []
  | 0 => .nil
  | n + 1 => by
    rw [List.replicate_succ, List.replicate_succ, List.flatten_cons, List.flatten_cons]
    exact A.app (OwA.rep A n)
theorem pr_mul {ca : Ks} : Prim ca (r2L rMul) pMul := ⟨fun P Z H w vs ts Q b o h => by
  unfold pMul at h
  split at h
  · obtain ⟨x, g, y, f, rfl, h1, h2⟩ := o.i2
    obtain rfl := ow_int h1; obtain rfl := ow_int h2
    split at h
    · rename_i q
      exact ⟨mulB_ok q, h.now b (.own (.int _))⟩
    · exact h.elim
  · obtain ⟨x, g, y, f, rfl, h1, h2⟩ := o.i2
    obtain rfl := ow_str h1; obtain rfl := ow_int h2
    split at h
    · rename_i q
      exact ⟨q, h.now b (.own (.str _))⟩
    · exact h.elim
  · obtain ⟨x, g, y, f, rfl, h1, h2⟩ := o.i2
    obtain ⟨a, us, _, rfl, e1, A1⟩ := ow_lst b h1
    obtain rfl := ow_int h2
    split at h
    · rename_i q
      simp only [r2L, rMul, e1]
      rw [← A1.length] at q
      have q2 := okR_le q.2.1
      exact ⟨⟨by omega, by omega, q.2.2⟩, fun p hp => Res.lst h b hp ((A1.froz q.1).rep _)⟩
    · exact h.elim
  · exact h.elim⟩
def pDiv : List T → Option Ent := fun ts => match ts with
  | [.int i, .int j] => if 0 < j ∧ j.natAbs < 1073741824 then oI (i / j) else none
  | _ => none
theorem pr_div {ca : Ks} : Prim ca (r2L rDiv) pDiv := ⟨fun P Z H w vs ts Q b o h => by
  unfold pDiv at h
  split at h
  · obtain ⟨x, g, y, f, rfl, h1, h2⟩ := o.i2
    obtain rfl := ow_int h1; obtain rfl := ow_int h2
    split at h
    · rename_i q
      exact ⟨q, h.now b (.own (.int _))⟩
    · exact h.elim
  · exact h.elim⟩
def pMod : List T → Option Ent := fun ts => match ts with
  | [.int i, .int j] => if 0 < j then oI (i % j) else none
  | _ => none
theorem pr_mod {ca : Ks} : Prim ca (r2L rMod) pMod := ⟨fun P Z H w vs ts Q b o h => by
  unfold pMod at h
  split at h
  · obtain ⟨x, g, y, f, rfl, h1, h2⟩ := o.i2
    obtain rfl := ow_int h1; obtain rfl := ow_int h2
    split at h
    · rename_i q
      exact ⟨q, h.now b (.own (.int _))⟩
    · exact h.elim
  · exact h.elim⟩
def pPow : List T → Option Ent := fun ts => match ts with
  | [.int i, .int j] => if 0 ≤ j ∧ (Builtin.Int.intBits i : Int) * j ≤ 2 ^ 27 then oI (i ^ j.toNat) else none
  | _ => none
theorem pr_pow {ca : Ks} : Prim ca (r2L rPow) pPow := ⟨fun P Z H w vs ts Q b o h => by
  unfold pPow at h
  split at h
  · obtain ⟨x, g, y, f, rfl, h1, h2⟩ := o.i2
    obtain rfl := ow_int h1; obtain rfl := ow_int h2
    split at h
    · rename_i q
      exact ⟨q, h.now b (.own (.int _))⟩
    · exact h.elim
  · exact h.elim⟩
def pNeg : List T → Option Ent := fun ts => match ts with
  | [.int i] => oI (-i)
  | _ => none
theorem pr_neg {ca : Ks} : Prim ca (r1L rNeg) pNeg := ⟨fun P Z H w vs ts Q b o h => by
  unfold pNeg at h
  split at h
  · obtain ⟨x, g, rfl, h1⟩ := o.i1
    obtain rfl := ow_int h1
    exact h.now b (.own (.int _))
  · exact h.elim⟩
/-! ### comparisons -/
def pLt : List T → Option Ent := fun ts => match ts with
  | [.int i, .int j] => oB (decide (i < j))
  | _ => none
theorem pr_lt {ca : Ks} : Prim ca (r2L rLt) pLt := ⟨fun P Z H w vs ts Q b o h => by
  unfold pLt at h
  split at h
  · obtain ⟨x, g, y, f, rfl, h1, h2⟩ := o.i2
    obtain rfl := ow_int h1; obtain rfl := ow_int h2
    exact h.now b (.own (.bl _))
  · exact h.elim⟩
def pLe : List T → Option Ent := fun ts => match ts with
  | [.int i, .int j] => oB (decide (i ≤ j))
  | [.str i, .str j] => oB (!decide (j.cps.toList < i.cps.toList))
  | _ => none
theorem pr_le {ca : Ks} : Prim ca (r2L rLe) pLe := ⟨fun P Z H w vs ts Q b o h => by
  unfold pLe at h
  split at h
  · obtain ⟨x, g, y, f, rfl, h1, h2⟩ := o.i2
    obtain rfl := ow_int h1; obtain rfl := ow_int h2
    exact h.now b (.own (.bl _))
  · obtain ⟨x, g, y, f, rfl, h1, h2⟩ := o.i2
    obtain rfl := ow_str h1; obtain rfl := ow_str h2
    exact h.now b (.own (.bl _))
  · exact h.elim⟩
def pGt : List T → Option Ent := fun ts => match ts with
  | [.int i, .int j] => oB (decide (j < i))
  | _ => none
theorem pr_gt {ca : Ks} : Prim ca (r2L rGt) pGt := ⟨fun P Z H w vs ts Q b o h => by
  unfold pGt at h
  split at h
  · obtain ⟨x, g, y, f, rfl, h1, h2⟩ := o.i2
    obtain rfl := ow_int h1; obtain rfl := ow_int h2
    exact h.now b (.own (.bl _))
  · exact h.elim⟩
def pGe : List T → Option Ent := fun ts => match ts with
  | [.int i, .int j] => oB (decide (j ≤ i))
  | _ => none
theorem pr_ge {ca : Ks} : Prim ca (r2L rGe) pGe := ⟨fun P Z H w vs ts Q b o h => by
  unfold pGe at h
  split at h
  · obtain ⟨x, g, y, f, rfl, h1, h2⟩ := o.i2
    obtain rfl := ow_int h1; obtain rfl := ow_int h2
    exact h.now b (.own (.bl _))
  · exact h.elim⟩
/-- == of data -/
def rEqS (neg : Bool) : R2 := fun x y H Q => ∃ d e, Dr H x d ∧ Dr H y e ∧ SeqAt.shaped d = true ∧ SeqAt.shaped e = true ∧ Q (.bl (if neg then !PyData.eqv d e else PyData.eqv d e)) H
theorem opEqS {X : Cx} (hu : X.A.units + 64 < cLine) : OpR X (compareOp .Eq) (fun x y H Q => rEqS false x y H Q ∨ rEqU x y H Q) := by
  intro pins s σ H x y v u Q I rx ry h
  rcases h with ⟨d, e, hd, he, sd, se, q⟩ | h
  · exact op_eqD hu pins s σ H _ _ v u Q I rx ry ⟨d, e, Dr.dp _ _ hd (SeqAt.canLay_of_shaped sd), Dr.dp _ _ he (SeqAt.canLay_of_shaped se), sd, se, q⟩
  · exact opEq hu pins s σ H _ _ v u Q I rx ry h
theorem opNeS {X : Cx} (hu : X.A.units + 64 < cLine) : OpR X (compareOp .NotEq) (fun x y H Q => rEqS true x y H Q ∨ rNeU x y H Q) := by
  intro pins s σ H x y v u Q I rx ry h
  rcases h with h | h
  rotate_left
  · exact opNe hu pins s σ H _ _ v u Q I rx ry h
  obtain ⟨d, e, hd, he, sd, se, q⟩ := h
  exact op_neD hu pins s σ H _ _ v u Q I rx ry ⟨d, e, Dr.dp _ _ hd (SeqAt.canLay_of_shaped sd), Dr.dp _ _ he (SeqAt.canLay_of_shaped se), sd, se, q⟩
def eqT0 (x y : T) : Option Bool := match x.data, y.data with
  | some d, some e => if (SeqAt.shaped d && SeqAt.shaped e) = true then some (PyData.eqv d e) else match x, y with
    | .dct _ _, .str _ => some false
    | _, _ => none
  | _, _ => none
def eqT (x y : T) : Option Bool := match x, y with
  | .str a, .str b => some (decide (a = b))
  | x, y => eqT0 x y
def pEq : List T → Option Ent := fun ts => match ts with
  | [x, y] => (eqT x y).map fun k => .own (.bl k)
  | _ => none
theorem pr_eq {ca : Ks} : Prim ca (r2L fun x y H Q => rEqS false x y H Q ∨ rEqU x y H Q) pEq := ⟨fun P Z H w vs ts Q b o h => by
  unfold pEq at h
  split at h
  · rename_i x y
    obtain ⟨v, g, u, f, rfl, h1, h2⟩ := o.i2
    unfold eqT at h
    split at h
    · obtain rfl := ow_str h1
      obtain rfl := ow_str h2
      refine Or.inr ?_
      simp only [rEqU, scal, if_true, V.str.injEq]
      exact h.now b (.own (.bl _))
    unfold eqT0 at h
    split at h
    · rename_i d e ed ee
      split at h
      · rename_i q
        simp only [Bool.and_eq_true] at q
        exact Or.inl ⟨d, e, h1.dr b.z ed, h2.dr b.z ee, q.1, q.2, h.now b (.own (.bl _))⟩
      · split at h
        · obtain ⟨a, ks, _, rfl, e1, _⟩ := ow_dct b h1
          obtain rfl := ow_str h2
          refine Or.inr ?_
          simp only [rEqU, scal, Bool.false_eq_true, if_false, eqR, e1, isCol, if_true]
          exact h.now b (.own (.bl _))
        · exact h.elim
    · exact h.elim
  · exact h.elim⟩
def pNe : List T → Option Ent := fun ts => match ts with
  | [.str a, .str b] => oB (!decide (a = b))
  | [x, y] => (match x.data, y.data with
    | some d, some e => if (SeqAt.shaped d && SeqAt.shaped e) = true then oB (!PyData.eqv d e) else none
    | _, _ => none)
  | _ => none
theorem pr_ne {ca : Ks} : Prim ca (r2L fun x y H Q => rEqS true x y H Q ∨ rNeU x y H Q) pNe := ⟨fun P Z H w vs ts Q b o h => by
  unfold pNe at h
  split at h
  · obtain ⟨v, g, u, f, rfl, h1, h2⟩ := o.i2
    obtain rfl := ow_str h1
    obtain rfl := ow_str h2
    refine Or.inr ?_
    simp only [rNeU, scal, if_true, V.str.injEq]
    exact h.now b (.own (.bl _))
  · rename_i x y _
    obtain ⟨v, g, u, f, rfl, h1, h2⟩ := o.i2
    split at h
    · rename_i d e ed ee
      split at h
      · rename_i q
        simp only [Bool.and_eq_true] at q
        exact Or.inl ⟨d, e, h1.dr b.z ed, h2.dr b.z ee, q.1, q.2, h.now b (.own (.bl _))⟩
      · exact h.elim
    · exact h.elim
  · exact h.elim⟩
def T.isNon : T → Bool
  | .non => true
  | _ => false
def pIs : List T → Option Ent := fun ts => match ts with
  | [.bl a, .bl b] => oB (decide (a = b))
  | [x, .non] => oB x.isNon
  | _ => none
theorem ow_isNon {ca : Ks} {H Z : Hp} {v : V} {t : T} {g : List Addr} (h : Ow ca H Z v t g) : decide (v = .non) = t.isNon := by
  cases h <;> rfl
theorem pr_is {ca : Ks} : Prim ca (r2L rIs) pIs := ⟨fun P Z H w vs ts Q b o h => by
  unfold pIs at h
  split at h
  · obtain ⟨v, g, u, f, rfl, h1, h2⟩ := o.i2
    obtain rfl := ow_bl h1; obtain rfl := ow_bl h2
    exact h.now b (.own (.bl _))
  · obtain ⟨v, g, u, f, rfl, h1, h2⟩ := o.i2
    obtain rfl := ow_non h2
    rw [← ow_isNon h1] at h
    have q := h.now b (.own (.bl _))
    show rIs v .non H Q
    unfold rIs
    cases v <;> exact q
  · exact h.elim⟩
end Rm
/-! Rm, part V5: more operations over trees: in, subscripts, built-in functions, fields. -/
namespace Rm
open PySem PySem.Spec L2
open PyProof.Rows hiding St
variable [Tb]
/-- a plain tree as a value -/
def T.flat : T → Option V
  | .non => some .non
  | .bl b => some (.bl b)
  | .int i => some (.int i)
  | .str x => some (.str x)
  | _ => none
def flatA : List T → Option (List V)
  | [] => some []
  | t :: ts => match t.flat, flatA ts with
    | some v, some vs => some (v :: vs)
    | _, _ => none
def T.key : T → Option Key
  | .int i => some (.inl i)
  | .str x => some (.inr x)
  | _ => none
def getK {κ α : Type} [DecidableEq κ] (ps : List (κ × α)) (k : κ) : Option α := (ps.find? fun p => decide (p.1 = k)).map (·.2)
section
variable {ca : Ks} {P Z H : Hp} {w : List Addr} {Q : VK} {v : V} {t : T} {g : List Addr} {xs : List V} {ts : List T}
theorem ow_flat {u : V} (h : Ow ca H Z v t g) (e : t.flat = some u) : v = u ∧ flatV v = true := by
  cases h <;> cases e <;> exact ⟨rfl, rfl⟩
theorem OwA.flat : ∀ {xs : List V} {ts : List T} {g : List Addr} {us : List V}, OwA ca H Z xs ts g → flatA ts = some us → xs = us ∧ xs.all flatV = true
  | _, _, _, _, .nil, e => by cases e; exact ⟨rfl, rfl⟩
  | _, _, _, _, .cons h A, e => by
    unfold flatA at e
    split at e
    · rename_i q1 q2
      cases e
      obtain ⟨rfl, f1⟩ := ow_flat h q1
      obtain ⟨rfl, f2⟩ := OwA.flat A q2
      exact ⟨rfl, by rw [List.all_cons, f1, f2]; rfl⟩
    · cases e
theorem ow_key {k : Key} (h : Ow ca H Z v t g) (e : t.key = some k) : keyOf v = some k ∧ v = kV k := by
  cases h <;> cases e <;> exact ⟨rfl, rfl⟩
/-- the item at a key, in both -/
theorem getK_rel {κ : Type} [DecidableEq κ] : ∀ {ks : List (κ × V)} {ps : List (κ × T)} {f : List Addr} {k : κ}, ks.map (·.1) = ps.map (·.1) → OwA ca H Z (ks.map (·.2)) (ps.map (·.2)) f →
    (getK ps k = none ∧ getK ks k = none) ∨ ∃ t v g, getK ps k = some t ∧ getK ks k = some v ∧ Ow ca H Z v t g
  | [], [], _, _, _, _ => Or.inl ⟨rfl, rfl⟩
  | [], _ :: _, _, _, e, _ => nomatch e
  | _ :: _, [], _, _, e, _ => nomatch e
  | (k1, v) :: ks, (k2, t) :: ps, _, k, e, A => by
    simp only [List.map_cons, List.cons.injEq] at e
    obtain ⟨rfl, e⟩ := e
    cases A with
    | cons h A =>
      by_cases q : k1 = k
      · refine Or.inr ⟨t, v, _, ?_, ?_, h⟩ <;> simp [getK, q]
      · have r := getK_rel (k := k) e A
        simpa only [getK, List.find?_cons, decide_eq_false q] using r
theorem getK_some {κ : Type} [DecidableEq κ] {ks : List (κ × V)} {ps : List (κ × T)} {f : List Addr} {k : κ} (ek : ks.map (·.1) = ps.map (·.1)) (A : OwA ca H Z (ks.map (·.2)) (ps.map (·.2)) f) : (getK ks k).isSome = (getK ps k).isSome := by
  rcases getK_rel (k := k) ek A with ⟨z1, z2⟩ | ⟨_, _, _, z1, z2, _⟩ <;> rw [z1, z2] <;> rfl
theorem valV_getK (ks : List (Key × V)) (k : Key) : valV ks k = getK ks k := rfl
end
/-! ### in -/
def memT (neg : Bool) (x y : T) : Option Bool := match y with
  | .lst _ ts | .tup ts => (match x.flat, flatA ts with
    | some v, some vs => some (if neg then !inV v vs else inV v vs)
    | _, _ => none)
  | .dct _ ps => (match x.key with
    | some k => some (if neg then !(getK ps k).isSome else (getK ps k).isSome)
    | none => none)
  | _ => none
def pMem (neg : Bool) : List T → Option Ent := fun ts => match ts with
  | [x, y] => (memT neg x y).map fun k => .own (.bl k)
  | _ => none
theorem pr_mem {ca : Ks} (neg : Bool) : Prim ca (r2L (rMem neg)) (pMem neg) := ⟨fun P Z H w vs ts Q b o h => by
  unfold pMem at h
  split at h
  · rename_i x y
    obtain ⟨v, g, u, f, rfl, h1, h2⟩ := o.i2
    unfold memT at h
    split at h
    · obtain ⟨a, us, _, rfl, e1, A⟩ := ow_lst b h2
      split at h
      · rename_i q1 q2
        obtain ⟨rfl, f1⟩ := ow_flat h1 q1
        obtain ⟨rfl, f2⟩ := A.flat q2
        simp only [r2L, rMem, rdo_of e1 (fun _ _ y => nomatch y)]
        exact ⟨⟨f1, f2⟩, h.now b (.own (.bl _))⟩
      · exact h.elim
    · obtain ⟨a, us, rfl, e1, _, A⟩ := ow_tup b h2
      split at h
      · rename_i q1 q2
        obtain ⟨rfl, f1⟩ := ow_flat h1 q1
        obtain ⟨rfl, f2⟩ := A.flat q2
        simp only [r2L, rMem, rdo_of e1 (fun _ _ y => nomatch y)]
        exact ⟨⟨f1, f2⟩, h.now b (.own (.bl _))⟩
      · exact h.elim
    · obtain ⟨a, ks, _, rfl, e1, ek, A⟩ := ow_dct b h2
      split at h
      · rename_i k q1
        simp only [r2L, rMem, e1, (ow_key h1 q1).1, valV_getK]
        rw [getK_some (k := k) ek A]
        exact h.now b (.own (.bl _))
      · exact h.elim
    · exact h.elim
  · exact h.elim⟩
/-- x in a module's tuple of plain items -/
def pInC (neg : Bool) (xs : List V) : List T → Option Ent := fun ts => match ts with
  | [x] => (match x.flat with
    | some v => if xs.all flatV = true then oB (if neg then !inV v xs else inV v xs) else none
    | none => (match x with
      | _ => none))
  | _ => none
/-! ### subscripts -/
def keysT : List T → Option (List Key)
  | [] => some []
  | t :: ts => match t.key, keysT ts with
    | some k, some ks => some (k :: ks)
    | _, _ => none
def getZ : List (List Key) → List T → List Key → Option T
  | k :: ks, t :: ts, x => if k = x then some t else getZ ks ts x
  | _, _, _ => none
theorem keysT_ow {ca : Ks} {H Z : Hp} : ∀ {xs : List V} {ts : List T} {g : List Addr} {ks : List Key}, OwA ca H Z xs ts g → keysT ts = some ks → keysOf xs = some ks
  | _, _, _, _, .nil, e => by cases e; rfl
  | _, _, _, _, .cons h A, e => by
    unfold keysT at e
    split at e
    · rename_i k ks e1 e2
      cases e
      unfold keysOf
      rw [(ow_key h e1).1, keysT_ow A e2]
    · cases e
theorem getZ_rel {ca : Ks} {H Z : Hp} {x : List Key} {t : T} : ∀ {kvs : List (List Key × V)} {ks : List (List Key)} {ts : List T} {f : List Addr}, kvs.map (·.1) = ks → OwA ca H Z (kvs.map (·.2)) ts f → getZ ks ts x = some t → ∃ v f', valV kvs x = some v ∧ Ow ca H Z v t f'
  | [], _, _, _, rfl, A, e => by cases A; cases e
  | (k, v) :: kvs, _, _, _, rfl, A, e => by
    cases A with
    | @cons _ _ t1 ts f g h A =>
      rw [List.map_cons, getZ] at e
      split at e
      · rename_i q
        cases e
        exact ⟨v, f, valV_pos q, h⟩
      · rename_i q
        obtain ⟨v', f', h1, h2⟩ := getZ_rel rfl A e
        exact ⟨v', f', by rw [valV_neg q]; exact h1, h2⟩
def itemT (x y : T) : Option T := match x with
  | .lst _ ts | .tup ts | .scr ts => (match y with
    | .int i => atI ts i
    | _ => none)
  | .dct _ ps => (match y.key with
    | some k => getK ps k
    | none => none)
  | .dtp _ ks ts => (match y with
    | .tup us => (match keysT us with
      | some k => getZ ks ts k
      | none => none)
    | _ => none)
  | .str z => (match y with
    | .int i => if z.length ≤ sizeLine then (match atI z.cps.toList i with
      | some c => some (.str ⟨#[c]⟩)
      | none => none) else none
    | _ => none)
  | _ => none
def pItem : List T → Option Ent := fun ts => match ts with
  | [x, y] => (itemT x y).map .vw
  | _ => none
theorem atI_rel {ca : Ks} {H Z : Hp} {xs : List V} {ts : List T} {g : List Addr} {i : Int} {t : T} (A : OwA ca H Z xs ts g) (h : atI ts i = some t) : ∃ v f, atI xs i = some v ∧ Ow ca H Z v t f := by
  unfold atI at h ⊢
  rw [A.length]
  cases q : ixN ts.length i with
  | none => rw [q] at h; cases h
  | some j =>
    rw [q] at h
    exact A.get h
theorem pr_item {ca : Ks} : Prim ca (r2L rItem) pItem := ⟨fun P Z H w vs ts Q b o h => by
  unfold pItem at h
  split at h
  · rename_i x y
    obtain ⟨v, g, u, f, rfl, h1, h2⟩ := o.i2
    cases e : itemT x y with
    | none => rw [e] at h; exact h.elim
    | some t =>
      rw [e] at h
      unfold itemT at e
      split at e
      · obtain ⟨a, us, _, rfl, e1, A⟩ := ow_lst b h1
        split at e
        · obtain rfl := ow_int h2
          obtain ⟨v, f, q, o⟩ := atI_rel A e
          simp only [r2L, rItem, rdo_of e1 (fun _ _ y => nomatch y), q]
          exact h.now b (.vw o)
        · cases e
      · obtain ⟨a, us, rfl, e1, _, A⟩ := ow_tup b h1
        split at e
        · obtain rfl := ow_int h2
          obtain ⟨v, f, q, o⟩ := atI_rel A e
          simp only [r2L, rItem, rdo_of e1 (fun _ _ y => nomatch y), q]
          exact h.now b (.vw o)
        · cases e
      · obtain ⟨a, us, rfl, e1, A⟩ := ow_scr b h1
        split at e
        · obtain rfl := ow_int h2
          obtain ⟨v, f, q, o⟩ := atI_rel A e
          simp only [r2L, rItem, e1, q]
          exact h.now b (.vw o)
        · cases e
      · obtain ⟨a, ks, _, rfl, e1, ek, A⟩ := ow_dct b h1
        split at e
        · rename_i k q1
          rcases getK_rel (k := k) ek A with ⟨z1, _⟩ | ⟨t', v', f', z1, z2, o⟩
          · rw [z1] at e; cases e
          · rw [z1] at e; cases e
            simp only [r2L, rItem, e1, (ow_key h2 q1).1, valV_getK, z2]
            exact h.now b (.vw o)
        · cases e
      · obtain ⟨a, kvs, _, rfl, e1, ek, A⟩ := ow_dtp b h1
        split at e
        · obtain ⟨c, ys, rfl, f1, _, A2⟩ := ow_tup b h2
          split at e
          · rename_i k q1
            obtain ⟨v', f', z1, o⟩ := getZ_rel ek A e
            simp only [r2L, rItem, e1, f1, keysT_ow A2 q1, z1]
            exact h.now b (.vw o)
          · cases e
        · cases e
      · obtain rfl := ow_str h1
        split at e
        · obtain rfl := ow_int h2
          split at e
          · rename_i hl
            split at e
            · rename_i c q
              cases e
              simp only [r2L, rItem, q]
              exact ⟨hl, h.now b (.vw (.str _))⟩
            · cases e
          · cases e
        · cases e
      · cases e
  · exact h.elim⟩
/-! ### built-in functions -/
def pLen : List T → Option Ent := fun ts => match ts with
  | [.lst _ xs] | [.tup xs] | [.scr xs] => oI xs.length
  | [.dct _ ps] => oI ps.length
  | [.str z] => if z.length ≤ sizeLine then oI z.length else none
  | _ => none
theorem pr_len {ca : Ks} : Prim ca rLen pLen := ⟨fun P Z H w vs ts Q b o h => by
  unfold pLen at h
  split at h
  · obtain ⟨v, g, rfl, h1⟩ := o.i1
    obtain ⟨a, us, _, rfl, e1, A⟩ := ow_lst b h1
    simp only [rLen, rdo_of e1 (fun _ _ y => nomatch y)]
    rw [A.length]; exact h.now b (.own (.int _))
  · obtain ⟨v, g, rfl, h1⟩ := o.i1
    obtain ⟨a, us, rfl, e1, _, A⟩ := ow_tup b h1
    simp only [rLen, rdo_of e1 (fun _ _ y => nomatch y)]
    rw [A.length]; exact h.now b (.own (.int _))
  · obtain ⟨v, g, rfl, h1⟩ := o.i1
    obtain ⟨a, us, rfl, e1, A⟩ := ow_scr b h1
    simp only [rLen, e1]
    rw [A.length]; exact h.now b (.own (.int _))
  · obtain ⟨v, g, rfl, h1⟩ := o.i1
    obtain ⟨a, ks, _, rfl, e1, ek, A⟩ := ow_dct b h1
    simp only [rLen, e1]
    have hl := congrArg List.length ek
    rw [List.length_map, List.length_map] at hl
    rw [hl]; exact h.now b (.own (.int _))
  · obtain ⟨v, g, rfl, h1⟩ := o.i1
    obtain rfl := ow_str h1
    split at h
    · rename_i hl
      exact ⟨hl, h.now b (.own (.int _))⟩
    · exact h.elim
  · exact h.elim⟩
def pInt : List T → Option Ent := fun ts => match ts with
  | [.int i] => oI i
  | [.bl k] => oI (if k then 1 else 0)
  | _ => none
theorem pr_int {ca : Ks} : Prim ca rInt pInt := ⟨fun P Z H w vs ts Q b o h => by
  unfold pInt at h
  split at h
  · obtain ⟨v, g, rfl, h1⟩ := o.i1
    obtain rfl := ow_int h1
    exact h.now b (.own (.int _))
  · obtain ⟨v, g, rfl, h1⟩ := o.i1
    obtain rfl := ow_bl h1
    exact h.now b (.own (.int _))
  · exact h.elim⟩
def pMax : List T → Option Ent := fun ts => match ts with
  | [.int i, .int j] => oI (if j > i then j else i)
  | _ => none
theorem pr_max {ca : Ks} : Prim ca rMax pMax := ⟨fun P Z H w vs ts Q b o h => by
  unfold pMax at h
  split at h
  · obtain ⟨x, g, y, f, rfl, h1, h2⟩ := o.i2
    obtain rfl := ow_int h1; obtain rfl := ow_int h2
    exact h.now b (.own (.int _))
  · exact h.elim⟩
def pMin : List T → Option Ent := fun ts => match ts with
  | [.int i, .int j] => oI (if j < i then j else i)
  | _ => none
theorem pr_min {ca : Ks} : Prim ca rMin pMin := ⟨fun P Z H w vs ts Q b o h => by
  unfold pMin at h
  split at h
  · obtain ⟨x, g, y, f, rfl, h1, h2⟩ := o.i2
    obtain rfl := ow_int h1; obtain rfl := ow_int h2
    exact h.now b (.own (.int _))
  · exact h.elim⟩
def pAbs : List T → Option Ent := fun ts => match ts with
  | [.int i] => oI (if i < 0 then -i else i)
  | _ => none
theorem pr_abs {ca : Ks} : Prim ca rAbs pAbs := ⟨fun P Z H w vs ts Q b o h => by
  unfold pAbs at h
  split at h
  · obtain ⟨v, g, rfl, h1⟩ := o.i1
    obtain rfl := ow_int h1
    exact h.now b (.own (.int _))
  · exact h.elim⟩
def pTuple : List T → Option Ent := fun ts => match ts with
  | [.lst _ xs] => if T.isFA xs = true then some (.own (.tup xs)) else none
  | [.tup xs] => some (.own (.tup xs))
  | _ => none
theorem pr_tuple {ca : Ks} : Prim ca rTuple pTuple := ⟨fun P Z H w vs ts Q b o h => by
  unfold pTuple at h
  split at h
  · obtain ⟨v, g, rfl, h1⟩ := o.i1
    obtain ⟨a, us, _, rfl, e1, A⟩ := ow_lst b h1
    split at h
    · rename_i q
      simp only [rTuple, rdo_of e1 (fun _ _ y => nomatch y)]
      exact fun p hp => Res.tup h b hp (A.froz q)
    · exact h.elim
  · obtain ⟨v, g, rfl, h1⟩ := o.i1
    obtain ⟨a, us, rfl, e1, z1, A⟩ := ow_tup b h1
    simp only [rTuple, rdo_of e1 (fun _ _ y => nomatch y)]
    exact h.now b (.own (.tup z1 A))
  · exact h.elim⟩
def T.ty : T → Option String
  | .non => some "NoneType"
  | .bl _ => some "bool"
  | .int _ => some "int"
  | .str _ => some "str"
  | .tup _ => some "tuple"
  | .lst _ _ => some "list"
  | .scr _ => some "list"
  | .dct _ _ => some "dict"
  | _ => none
def pIsi (cs : String) : List T → Option Ent := fun ts => match ts with
  | [x] => (match x.ty with
    | some n => if okCls.contains cs = true then oB (subN n cs) else none
    | none => none)
  | _ => none
theorem ow_ty {ca : Ks} {P Z H : Hp} {w : List Addr} {v : V} {t : T} {g : List Addr} {n : String} (b : Base P Z H w) (h : Ow ca H Z v t g) (e : t.ty = some n) : tyN v H = some n := by
  cases t with
  | non => rw [ow_non h]; exact e
  | bl k => rw [ow_bl h]; exact e
  | int i => rw [ow_int h]; exact e
  | str x => rw [ow_str h]; exact e
  | tup ts =>
    obtain ⟨a, us, rfl, e1, _, A⟩ := ow_tup b h
    simp only [tyN, rdo_of e1 (fun _ _ y => nomatch y)]; exact e
  | lst o ts =>
    obtain ⟨a, us, _, rfl, e1, A⟩ := ow_lst b h
    simp only [tyN, rdo_of e1 (fun _ _ y => nomatch y)]; exact e
  | dct o ps =>
    obtain ⟨a, ks, _, rfl, e1, ek, A⟩ := ow_dct b h
    simp only [tyN, e1]; exact e
  | dtp _ _ _ => cases e
  | ins o C fs => cases e
  | scr ts =>
    obtain ⟨a, us, rfl, e1, A⟩ := ow_scr b h
    simp only [tyN, e1]; exact e
theorem pr_isi {ca : Ks} (cs : String) : Prim ca (r1L fun x H Q => rIsi [x, .ty cs] H Q) (pIsi cs) := ⟨fun P Z H w vs ts Q b o h => by
  unfold pIsi at h
  split at h
  · obtain ⟨v, g, rfl, h1⟩ := o.i1
    split at h
    · rename_i n e
      split at h
      · rename_i q
        show rIsi [v, .ty cs] H Q
        simp only [rIsi, ow_ty b h1 e]
        exact ⟨by simpa using q, h.now b (.own (.bl _))⟩
      · exact h.elim
    · exact h.elim
  · exact h.elim⟩
def pRepr : List T → Option Ent := fun ts => match ts with
  | [x] => (match x.data with
    | some d => if d.showable = true ∧ d.shown.length ≤ sizeLine ∧ d.depth ≤ 60 then oS d.shown else none
    | none => none)
  | _ => none
theorem pr_repr {ca : Ks} : Prim ca rRepr pRepr := ⟨fun P Z H w vs ts Q b o h => by
  unfold pRepr at h
  split at h
  · obtain ⟨v, g, rfl, h1⟩ := o.i1
    split at h
    · rename_i d e
      split at h
      · rename_i q
        exact ⟨v, d, rfl, h1.dr b.z e, q.1, q.2.1, q.2.2, h.now b (.own (.str _))⟩
      · exact h.elim
    · exact h.elim
  · exact h.elim⟩
/-! ### slices -/
def cutT {α : Type} (xs : List α) (lo hi : Option Int) : List α := (xs.drop (HT.sIx xs.length 0 lo)).take (HT.sIx xs.length xs.length hi - HT.sIx xs.length 0 lo)
def pSl (lo hi : Option Int) : List T → Option Ent := fun ts => match ts with
  | [.str z] => if z.length ≤ sizeLine then oS (cutS z lo hi) else none
  | [.lst _ xs] => if T.isFA xs = true then some (.own (.lst true (cutT xs lo hi))) else none
  | [.tup xs] => some (.own (.tup (cutT xs lo hi)))
  | _ => none
theorem pr_sl {ca : Ks} (lo hi : Option Int) : Prim ca (r1L fun x H Q => rSlice x lo hi H Q) (pSl lo hi) := ⟨fun P Z H w vs ts Q b o h => by
  unfold pSl at h
  split at h
  · obtain ⟨v, g, rfl, h1⟩ := o.i1
    obtain rfl := ow_str h1
    split at h
    · rename_i hl
      exact ⟨hl, h.now b (.own (.str _))⟩
    · exact h.elim
  · obtain ⟨v, g, rfl, h1⟩ := o.i1
    obtain ⟨a, us, _, rfl, e1, A⟩ := ow_lst b h1
    split at h
    · rename_i q
      simp only [r1L, rSlice, rdo_of e1 (fun _ _ y => nomatch y)]
      unfold cutT at h
      rw [← A.length] at h
      exact fun p hp => Res.lst h b hp (((A.froz q).drop0 _).take0 _)
    · exact h.elim
  · obtain ⟨v, g, rfl, h1⟩ := o.i1
    obtain ⟨a, us, rfl, e1, z1, A⟩ := ow_tup b h1
    simp only [r1L, rSlice, rdo_of e1 (fun _ _ y => nomatch y)]
    unfold cutT at h
    rw [← A.length] at h
    refine ⟨fun q => ?_, fun _ p hp => Res.tup h b hp ((A.drop0 _).take0 _)⟩
    rw [q.1, q.2, Nat.sub_zero, List.drop_zero, A.length, List.take_length] at h
    exact h.now b (.own (.tup z1 A))
  · exact h.elim⟩
/-! ### fields -/
section
variable {c : VC} {W : WX} {r1 r2 r3 : Bool} {t t1 t2 t3 : TE} {m m1 m2 m3 : List Ent → R Ent}
/-- x in CONST -/
theorem SV.inC (neg : Bool) {xs : List V} {g : Hp → (Hp → Prop) → Prop} (hg : ∀ (H : Hp) (q : Hp → Prop), (∀ H', Ext H H' → q H') → g H q) (h : SV c W r1 t m) : SV c W r1 (tInC neg xs g t) (mPrim (pInC neg xs) (mCons true m mNil)) := by
  have q := SV.un (r := fun v H1 Q => flatV v = true ∧ xs.all flatV = true ∧ g H1 fun H2 => Q (.bl (if neg then !inV v xs else inV v xs)) H2) (p := pInC neg xs) ⟨fun P Z H w vs ts Q b o h => by
    unfold pInC at h
    split at h
    · obtain ⟨v, g', rfl, h1⟩ := o.i1
      split at h
      · rename_i u e
        obtain ⟨rfl, fv⟩ := ow_flat h1 e
        split at h
        · rename_i fx
          exact ⟨fv, fx, hg _ _ fun H' x => h _ H' Z [] x (Ext.refl _) ZN.refl (b.ext x) (.own (.bl _))⟩
        · exact h.elim
      · exact h.elim
    · exact h.elim⟩ h
  exact q
theorem gC_x (H : Hp) (q : Hp → Prop) (h : ∀ H', Ext H H' → q H') : gC H q := h H (Ext.refl H)
theorem gN_x {xs : List V} (H : Hp) (q : Hp → Prop) (h : ∀ H', Ext H H' → q H') : gN xs H q := fun p hp => h _ (Ext.new hp)
/-- isinstance -/
theorem SV.isi (cs : String) (h : SV c W r1 t m) : SV c W r1 (tCB rIsi (tCons t (tCons (tC (.ty cs)) tNil))) (mPrim (pIsi cs) (mCons true m mNil)) := SV.un (pr_isi cs) h
/-- e[a:b] -/
def mPart (m : List Ent → R Ent) : List Ent → R (Option Int) := fun ρ => (m ρ).bind fun e ρ' => match e.t with
  | .int i => .ok (some i) ρ'
  | _ => .fail
def mSlice (m : List Ent → R Ent) (ml mh : List Ent → R (Option Int)) : List Ent → R Ent := fun ρ => (m ρ).bind fun e ρ1 => (ml ρ1).bind fun l ρ2 => (mh ρ2).bind fun u ρ3 => match pSl l u [e.t] with
  | some x => .ok x ρ3
  | none => .fail
/-- the parts of a slice that only read -/
structure SO (c : VC) (W : WX) (t : TO) (m : List Ent → R (Option Int)) : Prop where
  go : ∀ (M P Z H : Hp) (σ : St) (ρ : List Ent) (w : List Addr) (Q : Option Int → Hp → Prop), Ext M P → Base P Z H w → Slots c.ca H M Z σ ρ w → (match m ρ with
    | .ok o ρ' => ∀ H' Z', Ext Z Z' → ZN P Z Z' → Base P Z' H' w → Slots c.ca H' M Z' σ ρ' w → Ext H H' → Q o H'
    | .err C d ρ' => ∀ x vd H' Z' w', Ext Z Z' → ZN P Z Z' → Base P Z' H' w' → Z' x = some (.xd [(c.ef C, vd)]) → Ow c.ca H' Z' vd d [] → Slots c.ca H' M Z' σ ρ' w' → W (.ref (c.ca.cl C)) (some x) σ H'
    | .fail => False) → t σ H Q
theorem SO.none : SO c W tNoPart (mPure none) := ⟨fun M P Z H σ ρ w Q mp b s h => h H Z (Ext.refl _) ZN.refl b s (Ext.refl _)⟩
theorem SO.some (h : SV c W true t m) : SO c W (tPart t) (mPart m) := by
  refine ⟨fun M P Z H σ ρ w Q mp b s hf => ?_⟩
  refine h.go M P Z H σ ρ w _ mp b s ?_
  unfold mPart at hf
  cases e : m ρ with
  | fail => rw [e] at hf; exact hf
  | err C d ρ' => rw [e] at hf; exact hf
  | ok en ρ' =>
    rw [e] at hf
    dsimp only [R.bind] at hf
    intro v H1 Z1 fp w1 z1 n1 b1 ev s1 ro
    obtain ⟨g, o⟩ := ev.ow
    obtain ⟨x1, rfl⟩ := ro rfl
    cases q : en.t with
    | int j =>
      rw [q] at o hf
      cases o
      exact ⟨j, rfl, hf H1 Z1 z1 n1 b1.drop s1 x1⟩
    | non => rw [q] at hf; exact hf.elim
    | bl k => rw [q] at hf; exact hf.elim
    | str k => rw [q] at hf; exact hf.elim
    | tup k => rw [q] at hf; exact hf.elim
    | lst k l => rw [q] at hf; exact hf.elim
    | dct k l => rw [q] at hf; exact hf.elim
    | dtp _ _ _ => rw [q] at hf; exact hf.elim
    | ins k l n => rw [q] at hf; exact hf.elim
    | scr k => rw [q] at hf; exact hf.elim
theorem SV.slice {tl th : TO} {ml mh : List Ent → R (Option Int)} (h : SV c W r1 t m) (hl : SO c W tl ml) (hh : SO c W th mh) : SV c W r1 (tSl rSlice t tl th) (mSlice m ml mh) := by
  refine ⟨fun M P Z H σ ρ w Q mp b s hf => ?_⟩
  refine h.go M P Z H σ ρ w _ mp b s ?_
  unfold mSlice at hf
  cases e : m ρ with
  | fail => rw [e] at hf; exact hf
  | err C d ρ' => rw [e] at hf; exact hf
  | ok en ρ' =>
    rw [e] at hf
    dsimp only [R.bind] at hf
    intro v H1 Z1 fp w1 z1 n1 b1 ev s1 ro
    refine hl.go M (Rm.out w1 H1) Z1 H1 σ ρ' w1 _ (mp.trans b1.le) b1.out s1 ?_
    cases e2 : ml ρ' with
    | fail => rw [e2] at hf; exact hf
    | err C d ρ2 =>
      rw [e2] at hf
      intro x vd H2 Z2 w2 z2 n2 b2 hx2 ov s2
      exact hf x vd H2 Z2 w2 (z1.trans z2) (n1.trans (n2.of b1.le)) (b2.less b1.le) hx2 ov s2
    | ok lo ρ2 =>
      rw [e2] at hf
      dsimp only [R.bind] at hf
      intro H2 Z2 z2 n2 b2 s2 x2
      have b2' := Base.join (fp := fp) (f := []) (w' := w1) b1 b2 n2
      rw [List.append_nil] at b2'
      refine hh.go M (Rm.out w1 H2) Z2 H2 σ ρ2 w1 _ (mp.trans b2'.le) b2'.out s2 ?_
      cases e3 : mh ρ2 with
      | fail => rw [e3] at hf; exact hf
      | err C d ρ3 =>
        rw [e3] at hf
        intro x vd H3 Z3 w3 z3 n3 b3 hx3 ov s3
        exact hf x vd H3 Z3 w3 ((z1.trans z2).trans z3) ((n1.trans (n2.of b1.le)).trans (n3.of b2'.le)) (b3.less b2'.le) hx3 ov s3
      | ok hi ρ3 =>
        rw [e3] at hf
        dsimp only [R.bind] at hf
        intro H3 Z3 z3 n3 b3 s3 x3
        have b3' := Base.join (fp := fp) (f := []) (w' := w1) b2' b3 n3
        rw [List.append_nil] at b3'
        have ev3 : EntV c.ca H3 Z3 v en fp := (ev.mono z2 (fun a _ o y => x2 a o y) fun _ => x2).mono z3 (fun a _ o y => x3 a o y) fun _ => x3
        obtain ⟨g, o⟩ := ev3.ow
        have hf' : Res c.ca P Z3 H3 w1 Q (pSl lo hi [en.t]) := by
          split at hf
          · rename_i x q
            rw [q]
            intro v4 H4 Z4 fp4 x4 z4 n4 b4 ev4
            exact hf v4 H4 Z4 fp4 w1 (((z1.trans z2).trans z3).trans z4) (((n1.trans (n2.of b1.le)).trans (n3.of b2'.le)).trans n4) b4 ev4 (s3.mono z4 fun a q o y => x4 a o y) fun q => ⟨(((ro q).1.trans x2).trans x3).trans x4, (ro q).2⟩
          · exact hf.elim
        exact (pr_sl lo hi).go P Z3 H3 w1 [v] [en.t] Q b3'.drop (.cons o .nil) hf'
/-- a op b op' c -/
theorem SV.chain {r r' : R2} {p p' : List T → Option Ent} (pr : Prim c.ca (r2L r) p) (pr' : Prim c.ca (r2L r') p') (h1 : SV c W r1 t1 m1) (h2 : SV c W r2 t2 m2) (h3 : SV c W r3 t3 m3) : SV c W (r1 && (r2 && r3)) (tChain r r' t1 t2 t3) (mChain p p' r2 m1 m2 m3) := by
  refine ⟨fun M P Z H σ ρ w Q mp b s hf => ?_⟩
  have hq := (SA.cons h1 (SA.cons h2 (SA.nil (c := c) (W := W)))).go M P Z H σ ρ w (fun vs H2 => match vs with
    | [x, y] => r x y H2 fun z H3 => ∃ k, z = .bl k ∧ (if k = true then t3 σ H3 fun w' H4 => r' y w' H4 Q else Q (.bl false) H3)
    | _ => False) mp b s
  refine hq ?_
  unfold mChain at hf
  cases e : mCons r2 m1 (mCons true m2 mNil) ρ with
  | fail => rw [Bool.and_true, e]; rw [e] at hf; exact hf
  | err C d ρ' => rw [Bool.and_true, e]; rw [e] at hf; exact hf
  | ok es ρ1 =>
    rw [Bool.and_true, e]
    rw [e] at hf
    dsimp only [R.bind] at hf
    intro vs H1 Z1 fp w1 z1 n1 b1 evs s1 ro
    split at hf
    rotate_left
    · exact hf.elim
    rename_i e1 e2
    cases evs with
    | @cons v1 _ _ _ f1 _ ev1 A =>
    cases A with
    | @cons v2 _ _ _ f2 _ ev2 A =>
    cases A
    obtain ⟨g1, o1⟩ := ev1.ow
    obtain ⟨g2, o2⟩ := ev2.ow
    have bb : Base P Z1 H1 (f2 ++ w1) := by
      have := b1.sub (w' := f2 ++ w1) (by
        simp only [List.append_nil, List.append_assoc]
        exact List.sublist_append_right _ _)
      exact this
    refine pr.go P Z1 H1 (f2 ++ w1) [v1, v2] [e1.t, e2.t] _ bb (.cons o1 (.cons o2 .nil)) ?_
    split at hf
    · rename_i q
      rw [q]
      intro v H2 Z2 fp2 x2 z2 n2 b2 ev
      cases ev with
      | own o =>
      obtain rfl := ow_bl o
      refine ⟨true, rfl, ?_⟩
      rw [if_pos rfl]
      split at hf
      rotate_left
      · exact hf.elim
      rename_i hh
      have b2' : Base P Z2 H2 (f2 ++ w1) := b2.drop
      have s2 := s1.mono z2 fun a q o y => x2 a o y
      refine h3.go M (Rm.out w1 H2) Z2 H2 σ ρ1 w1 _ (mp.trans b2'.le) b2'.out s2 ?_
      cases e3 : m3 ρ1 with
      | fail => rw [e3] at hf; exact hf
      | err C d ρ2 =>
        rw [e3] at hf
        intro x vd H3 Z3 w3 z3 n3 b3 hx3 ov s3
        exact hf x vd H3 Z3 w3 ((z1.trans z2).trans z3) ((n1.trans n2).trans (n3.of b2'.le)) (b3.less b2'.le) hx3 ov s3
      | ok en3 ρ2 =>
        rw [e3] at hf
        dsimp only [R.bind] at hf
        intro v3 H3 Z3 f3 w3 z3 n3 b3 ev3 s3 ro3
        have kf : ∀ a ∈ f2, ∀ o, H2 a = some o → H3 a = some o := fun a q o y => b3.m a o (b2'.keep a q o y)
        have ev2' : EntV c.ca H3 Z3 v2 e2 f2 := (ev2.mono z2 (fun a _ o y => x2 a o y) fun _ => x2).mono z3 kf fun ⟨t, q, y⟩ => by
          rw [q] at hh
          simp only [Ent.held] at hh
          rw [y] at hh; cases hh
        obtain ⟨g2', o2'⟩ := ev2'.ow
        obtain ⟨g3, o3⟩ := ev3.ow
        have b3' : Base P Z3 H3 w3 := (b3.less b2'.le).drop
        have hf' : Res c.ca P Z3 H3 w3 Q (p' [e2.t, en3.t]) := by
          split at hf
          · rename_i x q
            rw [q]
            intro v4 H4 Z4 fp4 x4 z4 n4 b4 ev4
            refine hf v4 H4 Z4 fp4 w3 (((z1.trans z2).trans z3).trans z4) (((n1.trans n2).trans (n3.of b2'.le)).trans n4) b4 ev4 (s3.mono z4 fun a q o y => x4 a o y) fun q => ?_
            simp only [Bool.and_eq_true] at q
            have ro := ro (by simp only [Bool.and_eq_true]; exact ⟨q.1, q.2.1⟩)
            exact ⟨((ro.1.trans x2).trans (ro3 q.2.2).1).trans x4, (ro3 q.2.2).2.trans ro.2⟩
          · exact hf.elim
        exact pr'.go P Z3 H3 w3 [v2, v3] [e2.t, en3.t] Q b3' (.cons o2' (.cons o3 .nil)) hf'
    · rename_i q
      rw [q]
      intro v H2 Z2 fp2 x2 z2 n2 b2 ev
      cases ev with
      | own o =>
      obtain rfl := ow_bl o
      refine ⟨false, rfl, ?_⟩
      rw [if_neg (by decide)]
      refine hf _ H2 Z2 [] w1 (z1.trans z2) (n1.trans n2) (b2.drop.drop) (.own (.bl _)) (s1.mono z2 fun a q o y => x2 a o y) fun q => ?_
      simp only [Bool.and_eq_true] at q
      have ro := ro (by simp only [Bool.and_eq_true]; exact ⟨q.1, q.2.1⟩)
      exact ⟨ro.1.trans x2, ro.2⟩
    · exact hf.elim
end
end Rm
/-! Rm, part V6: statements by their meaning. -/
namespace Rm
open PySem PySem.Spec L2
open PyProof.Rows hiding St
variable [Tb]
/-! ### owned parts, counted -/
def cnt (x : Addr) (w : List Addr) : Nat := w.count x
theorem cnt_nil {x : Addr} : cnt x [] = 0 := rfl
theorem cnt_app {x : Addr} {a b : List Addr} : cnt x (a ++ b) = cnt x a + cnt x b := List.count_append
theorem cnt_cons {x y : Addr} {a : List Addr} : cnt x (y :: a) = cnt x a + cnt x [y] := by
  unfold cnt
  rw [List.count_cons, List.count_cons, List.count_nil]
  omega
theorem cnt_mem {x : Addr} {w : List Addr} : x ∈ w ↔ 0 < cnt x w := List.count_pos_iff.symm
theorem nd_cnt {w : List Addr} : w.Nodup ↔ ∀ x, cnt x w ≤ 1 := by
  induction w with
  | nil => simp [cnt]
  | cons a w ih =>
    rw [List.nodup_cons, ih]
    constructor
    · rintro ⟨h1, h2⟩ x
      rw [cnt_cons]
      by_cases e : a = x
      · subst e
        have : cnt a w = 0 := Nat.eq_zero_of_not_pos fun q => h1 (cnt_mem.mpr q)
        rw [this]; simp [cnt]
      · have : cnt x [a] = 0 := by simp [cnt, List.count_cons, e]
        have := h2 x
        omega
    · intro h
      refine ⟨fun q => ?_, fun x => ?_⟩
      · have h1 := h a
        rw [cnt_cons] at h1
        have h2 := cnt_mem.mp q
        have : cnt a [a] = 1 := by simp [cnt]
        omega
      · have := h x
        rw [cnt_cons] at this
        omega
section
variable {M P Z H Z' H' : Hp} {w w' fp : List Addr} {a : Addr} {o : HO}
/-- no more than was owned -/
theorem BaseT.cnt {T0 : List (Addr × Str)} (b : BaseT T0 P Z H w) (h : ∀ x, Rm.cnt x w' ≤ Rm.cnt x w) : BaseT T0 P Z H w' := by
  have mem : ∀ x ∈ w', x ∈ w := fun x q => cnt_mem.mpr (Nat.lt_of_lt_of_le (cnt_mem.mp q) (h x))
  exact ⟨b.z, fun a q => b.zw a (mem a q), b.m, fun a q => b.mw a (mem a q), nd_cnt.mpr fun x => Nat.le_trans (h x) (nd_cnt.mp b.nd x), fun a q => b.hw a (mem a q), b.tb⟩
/-- an owned thing is changed -/
theorem Base.put (b : Base P Z H w) (h : a ∈ w) (ho : ownO o = true := by rfl) : Base P Z (upd H a o) w := by
  refine ⟨fun x u q => ?_, b.zw, fun x u q => ?_, b.mw, b.nd, fun x q => ?_, ⟨b.tb.m, b.tb.z, tabs_keep b.tb.t fun x u y tc => by
    have : x ≠ a := fun e => by
      subst e
      obtain ⟨u', e1, e2⟩ := b.hw x h
      rw [y] at e1; cases e1
      exact isTC_own tc e2
    rw [upd_ne this]; exact y⟩⟩
  · have : x ≠ a := fun e => by rw [e, b.zw a h] at q; cases q
    rw [upd_ne this]; exact b.z x u q
  · have : x ≠ a := fun e => by rw [e, b.mw a h] at q; cases q
    rw [upd_ne this]; exact b.m x u q
  · by_cases e : x = a
    · rw [e]; exact ⟨o, upd_same, ho⟩
    · exact (b.hw x q).keep fun o y => by rw [upd_ne e]; exact y
end
/-! ### ends of statements -/
inductive O where
  | nx (ρ : List Ent) | rt (e : Ent) (ρ : List Ent) | bk (ρ : List Ent) | ct (ρ : List Ent) | err (C : Str) (d : T) (ρ : List Ent) | fail
structure Pin (pin : List Nat) (σ0 σ : St) : Prop where
  at_ : ∀ i ∈ pin, σ[i]? = σ0[i]?
  len : σ.length = σ0.length
/-- a frame: the classes, the slots of what callers keep -/
structure FC where
  c : VC
  pin : List Nat
  σ0 : St
def FinS (F : FC) (W : WX) (M P Z : Hp) (D : Ends) : O → Prop
  | .nx ρ' => ∀ σ' H' Z' w', Ext Z Z' → ZN P Z Z' → Base P Z' H' w' → Slots F.c.ca H' M Z' σ' ρ' w' → Pin F.pin F.σ0 σ' → D.nx σ' H'
  | .bk ρ' => ∀ σ' H' Z' w', Ext Z Z' → ZN P Z Z' → Base P Z' H' w' → Slots F.c.ca H' M Z' σ' ρ' w' → Pin F.pin F.σ0 σ' → D.bk σ' H'
  | .ct ρ' => ∀ σ' H' Z' w', Ext Z Z' → ZN P Z Z' → Base P Z' H' w' → Slots F.c.ca H' M Z' σ' ρ' w' → Pin F.pin F.σ0 σ' → D.ct σ' H'
  | .rt e ρ' => ∀ v σ' H' Z' fp w', Ext Z Z' → ZN P Z Z' → Base P Z' H' (fp ++ w') → EntV F.c.ca H' Z' v e fp → Slots F.c.ca H' M Z' σ' ρ' w' → Pin F.pin F.σ0 σ' → D.rt v H'
  | .err C d ρ' => ∀ x vd σ' H' Z' w', Ext Z Z' → ZN P Z Z' → Base P Z' H' w' → Z' x = some (.xd [(F.c.ef C, vd)]) → Ow F.c.ca H' Z' vd d [] → Slots F.c.ca H' M Z' σ' ρ' w' → Pin F.pin F.σ0 σ' → W (.ref (F.c.ca.cl C)) (some x) σ' H'
  | .fail => False
structure SS (F : FC) (W : WX) (t : TS) (m : List Ent → O) : Prop where
  go : ∀ (M P Z H : Hp) (σ : St) (ρ : List Ent) (w : List Addr) (D : Ends), Ext M P → Base P Z H w → Slots F.c.ca H M Z σ ρ w → Pin F.pin F.σ0 σ → FinS F W M P Z D (m ρ) → t D σ H
/-- from an expression to a statement -/
def R.then {α : Type} (r : R α) (k : α → List Ent → O) : O := match r with
  | .ok a ρ => k a ρ
  | .err C d ρ => .err C d ρ
  | .fail => .fail
def O.seq (o : O) (k : List Ent → O) : O := match o with
  | .nx ρ => k ρ
  | o => o
section
variable {F : FC} {W : WX} {M P Z Z1 H : Hp} {D D' : Ends}
theorem FinS.go {o : O} (z1 : Ext Z Z1) (n1 : ZN P Z Z1) (h : FinS F W M P Z D o) : FinS F W M P Z1 D o := by
  cases o with
  | nx ρ => exact fun σ H' Z' w' z n => h σ H' Z' w' (z1.trans z) (n1.trans n)
  | bk ρ => exact fun σ H' Z' w' z n => h σ H' Z' w' (z1.trans z) (n1.trans n)
  | ct ρ => exact fun σ H' Z' w' z n => h σ H' Z' w' (z1.trans z) (n1.trans n)
  | rt e ρ => exact fun v σ H' Z' fp w' z n => h v σ H' Z' fp w' (z1.trans z) (n1.trans n)
  | err C d ρ => exact fun x vd σ H' Z' w' z n => h x vd σ H' Z' w' (z1.trans z) (n1.trans n)
  | fail => exact h
/-- an expression's error within a statement -/
theorem fin_err {σ : St} {C : Str} {d : T} {ρ' : List Ent} (pn : Pin F.pin F.σ0 σ) (h : FinS F W M P Z D (.err C d ρ')) : ∀ x vd H' Z' w', Ext Z Z' → ZN P Z Z' → Base P Z' H' w' → Z' x = some (.xd [(F.c.ef C, vd)]) → Ow F.c.ca H' Z' vd d [] → Slots F.c.ca H' M Z' σ ρ' w' → W (.ref (F.c.ca.cl C)) (some x) σ H' :=
  fun x vd H' Z' w' z n b e o s => h x vd σ H' Z' w' z n b e o s pn
end
section
variable {F : FC} {W : WX} {r : Bool} {t u : TS} {te : TE} {ta : TA} {tt : TT} {m m' : List Ent → O} {me : List Ent → R Ent} {ms : List Ent → R (List Ent)} {mt : List Ent → R Bool}
theorem SS.next : SS F W tNext .nx := ⟨fun M P Z H σ ρ w D mp b s pn h => h σ H Z w (Ext.refl _) ZN.refl b s pn⟩
theorem SS.brk : SS F W tBreak .bk := ⟨fun M P Z H σ ρ w D mp b s pn h => h σ H Z w (Ext.refl _) ZN.refl b s pn⟩
def mThen (m m' : List Ent → O) : List Ent → O := fun ρ => (m ρ).seq m'
theorem SS.seq (h1 : SS F W t m) (h2 : SS F W u m') : SS F W (tSeq t u) (mThen m m') := by
  refine ⟨fun M P Z H σ ρ w D mp b s pn h => ?_⟩
  unfold tSeq
  refine h1.go M P Z H σ ρ w _ mp b s pn ?_
  unfold mThen at h
  cases e : m ρ with
  | nx ρ' =>
    rw [e] at h
    intro σ' H' Z' w' z n b1 s1 pn1
    exact h2.go M P Z' H' σ' ρ' w' D mp b1 s1 pn1 (FinS.go z n h)
  | rt e' ρ' => rw [e] at h; exact h
  | bk ρ' => rw [e] at h; exact h
  | ct ρ' => rw [e] at h; exact h
  | err C d ρ' => rw [e] at h; exact h
  | fail => rw [e] at h; exact h
def mDrop (me : List Ent → R Ent) : List Ent → O := fun ρ => (me ρ).then fun _ ρ' => .nx ρ'
theorem SS.drop (h : SV F.c W r te me) : SS F W (tDrop te) (mDrop me) := by
  refine ⟨fun M P Z H σ ρ w D mp b s pn hf => ?_⟩
  refine h.go M P Z H σ ρ w _ mp b s ?_
  unfold mDrop at hf
  cases e : me ρ with
  | fail => rw [e] at hf; exact hf
  | err C d ρ' => rw [e] at hf; exact fin_err pn hf
  | ok en ρ' =>
    rw [e] at hf
    intro v H1 Z1 fp w1 z1 n1 b1 ev s1 ro
    exact hf σ H1 Z1 w1 z1 n1 b1.drop s1 pn
def mRet (me : List Ent → R Ent) : List Ent → O := fun ρ => (me ρ).then fun e ρ' => .rt e ρ'
theorem SS.ret (h : SV F.c W r te me) : SS F W (tRet te) (mRet me) := by
  refine ⟨fun M P Z H σ ρ w D mp b s pn hf => ?_⟩
  refine h.go M P Z H σ ρ w _ mp b s ?_
  unfold mRet at hf
  cases e : me ρ with
  | fail => rw [e] at hf; exact hf
  | err C d ρ' => rw [e] at hf; exact fin_err pn hf
  | ok en ρ' =>
    rw [e] at hf
    intro v H1 Z1 fp w1 z1 n1 b1 ev s1 ro
    exact hf v σ H1 Z1 fp w1 z1 n1 b1 ev s1 pn
/-- return x, what x holds is handed over -/
def mMove (i : Nat) : List Ent → R Ent := fun ρ => match ρ[i]? with
  | some (.own t) => .ok (.own t) (ρ.set i .no)
  | some (.vw t) => .ok (.vw t) ρ
  | _ => .fail
theorem sv_move {c : VC} {i : Nat} : SV c W false (tV i) (mMove i) := by
  refine ⟨fun M P Z H σ ρ w Q mp b s hf => ?_⟩
  unfold mMove at hf
  unfold tV
  split at hf
  · rename_i t e
    obtain ⟨x, l, f, r, e1, e2, sl, k⟩ := s.split e
    subst e2
    cases sl with
    | @own v _ _ h =>
      rw [e1]
      have s2 := k (x' := some v) (f' := []) (fun _ _ _ q => q) (Ext.refl _) .no
      have hs : σ.set i (some v) = σ := by
        apply List.ext_getElem?
        intro j
        rw [List.getElem?_set]
        split
        · rename_i q; subst q
          split
          · exact e1.symm
          · rename_i q; rw [List.getElem?_eq_none (by omega)]
        · rfl
      rw [hs, List.nil_append] at s2
      exact hf _ H Z f (l ++ r) (Ext.refl _) ZN.refl (b.cnt fun x => by simp only [cnt_app]; omega) (.own h) s2 fun q => nomatch q
  · rename_i t e
    obtain ⟨x, l, f, r, e1, e2, sl, _⟩ := s.split e
    cases sl with
    | vw h =>
      rw [e1]
      exact hf _ H Z [] w (Ext.refl _) ZN.refl b (.vw (h.mono (Ext.refl _) fun a _ o y => b.m a o (mp a o y))) s fun q => nomatch q
  · exact hf.elim
def mRetN : List Ent → O := fun ρ => .rt (.own .non) ρ
def mIf (mt : List Ent → R Bool) (m m' : List Ent → O) : List Ent → O := fun ρ => (mt ρ).then fun k ρ' => if k = true then m ρ' else m' ρ'
theorem SS.ifs (h : ST F.c W r tt mt) (h1 : SS F W t m) (h2 : SS F W u m') : SS F W (tIfS tt t u) (mIf mt m m') := by
  refine ⟨fun M P Z H σ ρ w D mp b s pn hf => ?_⟩
  refine h.go M P Z H σ ρ w _ mp b s ?_
  unfold mIf at hf
  cases e : mt ρ with
  | fail => rw [e] at hf; exact hf
  | err C d ρ' => rw [e] at hf; exact fin_err pn hf
  | ok k ρ' =>
    rw [e] at hf
    dsimp only [R.then] at hf
    intro H1 Z1 w1 z1 n1 b1 s1 ro1
    cases k with
    | true => exact h1.go M P Z1 H1 σ ρ' w1 D mp b1 s1 pn (FinS.go z1 n1 hf)
    | false => exact h2.go M P Z1 H1 σ ρ' w1 D mp b1 s1 pn (FinS.go z1 n1 hf)
/-! names are bound -/
/-- what may be kept: an own thing, a frozen one -/
def Ent.keep : Ent → Option T
  | .own t => some t
  | .vw t => if t.isF = true then some t else none
  | .no => none
  | .exc _ _ => none
theorem EntV.keep {ca : Ks} {H Z : Hp} {v : V} {e : Ent} {fp : List Addr} {t : T} (h : EntV ca H Z v e fp) (q : e.keep = some t) : Ow ca H Z v t fp := by
  cases h with
  | own h => cases q; exact h
  | @vw t' g h =>
    have q' : (if t'.isF = true then some t' else none) = some t := q
    split at q'
    · rename_i y
      cases q'
      obtain rfl := h.nof y
      exact h
    · cases q'
def mSet (i : Nat) (me : List Ent → R Ent) : List Ent → O := fun ρ => (me ρ).then fun e ρ' => match e.keep with
  | some t => if i < ρ'.length then .nx (ρ'.set i (.own t)) else .fail
  | none => .fail
theorem Pin.set {pin : List Nat} {σ0 σ : St} {i : Nat} {x : Option V} (h : Pin pin σ0 σ) (hi : i ∉ pin) : Pin pin σ0 (σ.set i x) := ⟨fun j hj => by
  have : i ≠ j := fun e => hi (e ▸ hj)
  rw [List.getElem?_set_ne this]; exact h.at_ j hj, by rw [List.length_set]; exact h.len⟩
/-- a new value in a slot -/
theorem Slots.put {ca : Ks} {H M Z : Hp} {σ : St} {ρ : List Ent} {w fp : List Addr} {i : Nat} {v : V} {t : T} {P : Hp} (s : Slots ca H M Z σ ρ w) (hi : i < ρ.length) (h : Ow ca H Z v t fp) (b : Base P Z H (fp ++ w)) :
    ∃ w', Base P Z H w' ∧ Slots ca H M Z (σ.set i (some v)) (ρ.set i (.own t)) w' := by
  obtain ⟨x, l, f, r, e1, e2, sl, k⟩ := s.split (List.getElem?_eq_getElem hi)
  subst e2
  exact ⟨_, b.cnt (w' := l ++ (fp ++ r)) (fun x => by simp only [cnt_app]; omega), k (fun _ _ _ q => q) (Ext.refl _) (.own h)⟩
theorem SS.set (i : Nat) (hp : i ∉ F.pin) (h : SV F.c W r te me) : SS F W (tAsg te (gName i)) (mSet i me) := by
  refine ⟨fun M P Z H σ ρ w D mp b s pn hf => ?_⟩
  refine h.go M P Z H σ ρ w _ mp b s ?_
  unfold mSet at hf
  cases e : me ρ with
  | fail => rw [e] at hf; exact hf
  | err C d ρ' => rw [e] at hf; exact fin_err pn hf
  | ok en ρ' =>
    rw [e] at hf
    dsimp only [R.then] at hf
    intro v H1 Z1 fp w1 z1 n1 b1 ev s1 ro
    split at hf
    · rename_i tr q
      split at hf
      · rename_i hi
        obtain ⟨w2, b2, s2⟩ := s1.put hi (ev.keep q) b1
        exact hf _ H1 Z1 w2 z1 n1 b2 s2 (pn.set hp)
      · exact hf.elim
    · exact hf.elim
/-- targets for a frozen value -/
structure SG (F : FC) (g : TG) (m : T → List Ent → Option (List Ent)) : Prop where
  go : ∀ (M P Z H : Hp) (σ : St) (ρ : List Ent) (w : List Addr) (v : V) (t : T) (Q : St → Hp → Prop), Base P Z H w → Ow F.c.ca H Z v t [] → Slots F.c.ca H M Z σ ρ w → Pin F.pin F.σ0 σ → (match m t ρ with
    | some ρ' => ∀ σ' w', Base P Z H w' → Slots F.c.ca H M Z σ' ρ' w' → Pin F.pin F.σ0 σ' → Q σ' H
    | none => False) → g v σ H Q
structure SGs (F : FC) (g : TGs) (m : List T → List Ent → Option (List Ent)) : Prop where
  go : ∀ (M P Z H : Hp) (σ : St) (ρ : List Ent) (w : List Addr) (vs : List V) (ts : List T) (Q : St → Hp → Prop), Base P Z H w → OwA F.c.ca H Z vs ts [] → Slots F.c.ca H M Z σ ρ w → Pin F.pin F.σ0 σ → (match m ts ρ with
    | some ρ' => ∀ σ' w', Base P Z H w' → Slots F.c.ca H M Z σ' ρ' w' → Pin F.pin F.σ0 σ' → Q σ' H
    | none => False) → g vs σ H Q
def gmName (i : Nat) : T → List Ent → Option (List Ent) := fun t ρ => if i < ρ.length then some (ρ.set i (.own t)) else none
theorem SG.name (i : Nat) (hp : i ∉ F.pin) : SG F (gName i) (gmName i) := ⟨fun M P Z H σ ρ w v t Q b o s pn h => by
  unfold gmName at h
  split at h
  · rename_i ρ' q
    split at q
    · rename_i hi
      cases q
      obtain ⟨w2, b2, s2⟩ := s.put hi o (fp := []) b
      exact h _ w2 b2 s2 (pn.set hp)
    · cases q
  · exact h.elim⟩
def gmNil : List T → List Ent → Option (List Ent) := fun ts ρ => if ts.isEmpty then some ρ else none
def gmCons (m : T → List Ent → Option (List Ent)) (ms : List T → List Ent → Option (List Ent)) : List T → List Ent → Option (List Ent) := fun ts ρ => match ts with
  | t :: r => (m t ρ).bind (ms r)
  | [] => none
def gmTup (n : Nat) (ms : List T → List Ent → Option (List Ent)) : T → List Ent → Option (List Ent) := fun t ρ => match t with
  | .tup ts => if ts.length = n then ms ts ρ else none
  | _ => none
theorem SGs.nil : SGs F gNil gmNil := ⟨fun M P Z H σ ρ w vs ts Q b o s pn h => by
  unfold gmNil at h
  cases ts with
  | nil =>
    have := o.length
    have e : vs = [] := by cases vs <;> first | rfl | (simp at this)
    exact ⟨e, h σ w b s pn⟩
  | cons t ts => exact h.elim⟩
theorem SGs.cons {g : TG} {gs : TGs} {m : T → List Ent → Option (List Ent)} {ms : List T → List Ent → Option (List Ent)} (h1 : SG F g m) (h2 : SGs F gs ms) : SGs F (gCons g gs) (gmCons m ms) := ⟨fun M P Z H σ ρ w vs ts Q b o s pn h => by
  unfold gmCons at h
  cases vs with
  | nil =>
    cases o
    exact h.elim
  | cons v vs =>
    obtain ⟨t, rr, rfl, o1, o2⟩ := o.inv0
    refine ⟨v, vs, rfl, h1.go M P Z H σ ρ w v t _ b o1 s pn ?_⟩
    dsimp only at h
    cases e : m t ρ with
    | none => rw [e] at h; exact h.elim
    | some ρ1 =>
      rw [e] at h
      intro σ1 w1 b1 s1 pn1
      exact h2.go M P Z H σ1 ρ1 w1 vs rr Q b1 o2 s1 pn1 h⟩
theorem SG.tup {K : PySem.W.Frag} {n : Nat} {gs : TGs} {ms : List T → List Ent → Option (List Ent)} (h2 : SGs F gs ms) : SG F (gTup K n gs) (gmTup n ms) := ⟨fun M P Z H σ ρ w v t Q b o s pn h => by
  unfold gmTup at h
  cases t with
  | tup ts =>
    obtain ⟨a, xs, rfl, e1, _, A⟩ := ow_tup b o
    dsimp only at h
    by_cases q : ts.length = n
    · rw [if_pos q] at h
      exact ⟨a, xs, rfl, SqT.of e1, A.length.trans q, h2.go M P Z H σ ρ w xs ts Q b A s pn h⟩
    · rw [if_neg q] at h
      exact h.elim
  | non => exact h.elim
  | bl k => exact h.elim
  | int i => exact h.elim
  | str x => exact h.elim
  | lst k ts => exact h.elim
  | dct k ts => exact h.elim
  | dtp k zs ts => exact h.elim
  | ins k C ts => exact h.elim
  | scr ts => exact h.elim⟩
def mAsg (me : List Ent → R Ent) (g : T → List Ent → Option (List Ent)) : List Ent → O := fun ρ => (me ρ).then fun e ρ' => match e.fz with
  | some t => (match g t ρ' with
    | some ρ2 => .nx ρ2
    | none => .fail)
  | none => .fail
theorem SS.asg {g : TG} {mg : T → List Ent → Option (List Ent)} (h : SV F.c W r te me) (hg : SG F g mg) : SS F W (tAsg te g) (mAsg me mg) := by
  refine ⟨fun M P Z H σ ρ w D mp b s pn hf => ?_⟩
  refine h.go M P Z H σ ρ w _ mp b s ?_
  unfold mAsg at hf
  cases e : me ρ with
  | fail => rw [e] at hf; exact hf
  | err C d ρ' => rw [e] at hf; exact fin_err pn hf
  | ok en ρ' =>
    rw [e] at hf
    dsimp only [R.then] at hf
    intro v H1 Z1 fp w1 z1 n1 b1 ev s1 ro
    split at hf
    · rename_i tr q
      have o := ev.fz (Z' := fzZ fp H1 Z1) (fzZ_ext b1) (fun a y => fzZ_in a y) q
      have b2 := b1.fz
      have s2 := s1.mono (H' := H1) (fzZ_ext b1) (fun a q o y => y)
      refine hg.go M P (fzZ fp H1 Z1) H1 σ ρ' w1 v tr _ b2 o s2 pn ?_
      cases e2 : mg tr ρ' with
      | none => rw [e2] at hf; exact hf.elim
      | some ρ2 =>
        rw [e2] at hf
        intro σ' w' b3 s3 pn3
        exact hf σ' H1 _ w' (z1.trans (fzZ_ext b1)) (n1.trans (fzZ_zn b1)) b3 s3 pn3
    · exact hf.elim
end
end Rm
/-! Rm, part V7: places, and what is changed there. -/
namespace Rm
open PySem PySem.Spec L2
open PyProof.Rows hiding St
variable [Tb]
/-- in its place, or at the end -/
def putT {κ α : Type} [DecidableEq κ] : List (κ × α) → κ → α → List (κ × α)
  | [], k, x => [(k, x)]
  | (k', y) :: r, k, x => if k' = k then (k', x) :: r else (k', y) :: putT r k x
def dropT {κ α : Type} [DecidableEq κ] (ps : List (κ × α)) (k : κ) : List (κ × α) := ps.filter fun p => decide (p.1 ≠ k)
section
variable {κ α β : Type} [DecidableEq κ]
theorem putT_keys (f : κ → α → β → Prop) : ∀ {ks : List (κ × α)} {ps : List (κ × β)} {k : κ} {x : α} {y : β}, ks.map (·.1) = ps.map (·.1) → (putT ks k x).map (·.1) = (putT ps k y).map (·.1)
  | [], [], _, _, _, _ => rfl
  | [], _ :: _, _, _, _, e => nomatch e
  | _ :: _, [], _, _, _, e => nomatch e
  | (k1, v) :: ks, (k2, t) :: ps, k, x, y, e => by
    simp only [List.map_cons, List.cons.injEq] at e
    obtain ⟨rfl, e⟩ := e
    by_cases q : k1 = k
    · simp [putT, q, e]
    · simp only [putT, if_neg q, List.map_cons, putT_keys f (x := x) (y := y) e]
theorem putT_mem {ps : List (κ × β)} {k z : κ} {y : β} (h : z ∈ (putT ps k y).map (·.1)) : z = k ∨ z ∈ ps.map (·.1) := by
  induction ps with
  | nil => simpa [putT] using h
  | cons p r ih =>
    obtain ⟨k', x⟩ := p
    by_cases q : k' = k
    · simp only [putT, q, if_true, List.map_cons, List.mem_cons] at h ⊢
      rcases h with h | h
      · exact Or.inl h
      · exact Or.inr (Or.inr h)
    · simp only [putT, if_neg q, List.map_cons, List.mem_cons] at h ⊢
      rcases h with h | h
      · exact Or.inr (Or.inl h)
      · rcases ih h with h | h
        · exact Or.inl h
        · exact Or.inr (Or.inr h)
theorem putT_nodup : ∀ {ps : List (κ × β)} {k : κ} {y : β}, (ps.map (·.1)).Nodup → ((putT ps k y).map (·.1)).Nodup
  | [], k, y, _ => by simp [putT]
  | (k', x) :: r, k, y, h => by
    simp only [List.map_cons, List.nodup_cons] at h
    by_cases q : k' = k
    · simp only [putT, q, if_true, List.map_cons, List.nodup_cons]
      exact ⟨q ▸ h.1, h.2⟩
    · simp only [putT, if_neg q, List.map_cons, List.nodup_cons]
      exact ⟨fun z => (putT_mem z).elim q h.1, putT_nodup h.2⟩
theorem putK_putT {κ : Type} [DecidableEq κ] {ks : List (κ × V)} {k : κ} {v : V} (n : (ks.map (·.1)).Nodup) : putK ks k v = putT ks k v := by
  induction ks with
  | nil => rfl
  | cons p r ih =>
    obtain ⟨k', x⟩ := p
    simp only [List.map_cons, List.nodup_cons] at n
    have ih := ih n.2
    by_cases q : k' = k
    · subst q
      have : r.map (fun kv => if kv.1 = k' then (kv.1, v) else kv) = r := by
        have : ∀ l : List (κ × V), k' ∉ l.map (·.1) → l.map (fun kv => if kv.1 = k' then (kv.1, v) else kv) = l := by
          intro l hl
          induction l with
          | nil => rfl
          | cons a l ih2 =>
            simp only [List.map_cons, List.mem_cons, not_or] at hl
            rw [List.map_cons, ih2 hl.2, if_neg (fun z => hl.1 z.symm)]
        exact this r n.1
      simp [putK, putT, this]
    · unfold putK at ih ⊢
      simp only [putT, if_neg q, List.any_cons, decide_eq_false q, Bool.false_or, List.map_cons]
      split at ih
      · rename_i h
        rw [if_pos h, ih]
      · rename_i h
        rw [if_neg h, List.cons_append, ih]
theorem getK_cons {p : κ × α} {r : List (κ × α)} {k : κ} : getK (p :: r) k = if p.1 = k then some p.2 else getK r k := by
  unfold getK
  rw [List.find?_cons]
  by_cases q : p.1 = k
  · simp [q]
  · simp [q]
theorem putT_same : ∀ {ks : List (κ × α)} {k : κ} {v : α}, getK ks k = some v → putT ks k v = ks
  | [], k, v, h => by cases h
  | (k', x) :: r, k, v, h => by
    rw [getK_cons] at h
    by_cases q : k' = k
    · rw [if_pos q] at h
      cases h
      simp [putT, q]
    · rw [if_neg q] at h
      simp only [putT, if_neg q, putT_same h]
theorem putT_new : ∀ {ks : List (κ × α)} {k : κ} {v : α}, getK ks k = none → putT ks k v = ks ++ [(k, v)]
  | [], k, v, h => rfl
  | (k', x) :: r, k, v, h => by
    rw [getK_cons] at h
    by_cases q : k' = k
    · rw [if_pos q] at h
      cases h
    · rw [if_neg q] at h
      simp only [putT, if_neg q, putT_new h, List.cons_append]
end
section
variable {ca : Ks} {M P Z Z' H H' : Hp} {w fp : List Addr} {σ : St} {ρ : List Ent} {i : Nat} {v : V} {u : T} {k : T → T}
/-- one item apart, by its key -/
theorem OwP.foc {κ : Type} [DecidableEq κ] : ∀ {ks : List (κ × V)} {ps : List (κ × T)} {f : List Addr} {k : κ} {u : T}, ks.map (·.1) = ps.map (·.1) → OwA ca H Z (ks.map (·.2)) (ps.map (·.2)) f → getK ps k = some u →
    ∃ l m r v, f = l ++ (m ++ r) ∧ getK ks k = some v ∧ Ow ca H Z v u m ∧ ∀ {H' Z' : Hp} {u' : T} {m' : List Addr} {v' : V}, (∀ a ∈ l ++ r, ∀ o, H a = some o → H' a = some o) → Ext Z Z' → Ow ca H' Z' v' u' m' →
      OwA ca H' Z' ((putT ks k v').map (·.2)) ((putT ps k u').map (·.2)) (l ++ (m' ++ r))
  | [], [], _, _, _, _, _, h => by cases h
  | [], _ :: _, _, _, _, e, _, _ => nomatch e
  | _ :: _, [], _, _, _, e, _, _ => nomatch e
  | (k1, v) :: ks, (k2, t) :: ps, _, k, u, e, A, h => by
    simp only [List.map_cons, List.cons.injEq] at e
    obtain ⟨rfl, e⟩ := e
    rw [getK_cons] at h
    cases A with
    | @cons _ _ _ _ f1 g1 h1 A =>
      by_cases q : k1 = k
      · rw [if_pos q] at h
        cases h
        refine ⟨[], f1, g1, v, rfl, by rw [getK_cons, if_pos q], h1, fun {H' Z' u' m' v'} hh z o => ?_⟩
        simp only [putT, if_pos q, List.map_cons]
        have q2 : OwA ca H' Z' (v' :: _) (u' :: _) (m' ++ g1) := .cons o (A.mono z fun a y => hh a y)
        exact q2
      · rw [if_neg q] at h
        obtain ⟨l, m, r, v', e1, e2, o, kk⟩ := OwP.foc e A h
        refine ⟨f1 ++ l, m, r, v', by rw [e1, List.append_assoc], by rw [getK_cons, if_neg q]; exact e2, o, fun {H' Z' u' m' v'} hh z o => ?_⟩
        simp only [putT, if_neg q, List.map_cons, List.append_assoc]
        exact .cons (h1.mono z fun a y => hh a (by simp [y])) (kk (fun a y => hh a (by simp at y ⊢; rcases y with y | y <;> simp [y])) z o)
theorem OwA.append1 : ∀ {xs : List V} {ts : List T} {f : List Addr} {y : V} {t : T} {g : List Addr}, OwA ca H Z xs ts f → Ow ca H Z y t g → OwA ca H Z (xs ++ [y]) (ts ++ [t]) (f ++ g)
  | _, _, _, _, _, _, .nil, h => by
    have := OwA.cons h (OwA.nil (ca := ca) (H := H) (Z := Z))
    simpa using this
  | _, _, _, _, _, _, .cons a A, h => by
    have := OwA.cons a (OwA.append1 A h)
    simpa [List.append_assoc] using this
/-- a value at a key, new or not -/
theorem OwP.put {κ : Type} [DecidableEq κ] {ks : List (κ × V)} {ps : List (κ × T)} {f : List Addr} {k : κ} {v' : V} {u' : T} {m' : List Addr} (e : ks.map (·.1) = ps.map (·.1)) (A : OwA ca H Z (ks.map (·.2)) (ps.map (·.2)) f) (o : Ow ca H Z v' u' m') :
    ∃ f', OwA ca H Z ((putT ks k v').map (·.2)) ((putT ps k u').map (·.2)) f' ∧ ∀ x, cnt x f' ≤ cnt x f + cnt x m' := by
  rcases getK_rel (k := k) e A with ⟨z1, z2⟩ | ⟨t, v, g, z1, z2, _⟩
  · rw [putT_new z1, putT_new z2]
    refine ⟨f ++ m', ?_, fun x => by simp only [cnt_app]; omega⟩
    simp only [List.map_append, List.map_cons, List.map_nil]
    exact A.append1 o
  · obtain ⟨l, m, r, v, e1, e2, o1, kk⟩ := OwP.foc e A z1
    exact ⟨_, kk (fun _ _ _ y => y) (Ext.refl _) o, fun x => by rw [e1]; simp only [cnt_app]; omega⟩
theorem OwA.foc : ∀ {xs : List V} {ts : List T} {f : List Addr} {j : Nat} {u : T}, OwA ca H Z xs ts f → ts[j]? = some u →
    ∃ l m r v, f = l ++ (m ++ r) ∧ xs[j]? = some v ∧ Ow ca H Z v u m ∧ ∀ {H' Z' : Hp} {u' : T} {m' : List Addr} {v' : V}, (∀ a ∈ l ++ r, ∀ o, H a = some o → H' a = some o) → Ext Z Z' → Ow ca H' Z' v' u' m' →
      OwA ca H' Z' (xs.set j v') (ts.set j u') (l ++ (m' ++ r))
  | _, _, _, _, _, .nil, h => by simp at h
  | _, _, _, 0, _, .cons (v := v) (f := f1) (g := g1) h1 A, h => by
    simp at h; subst h
    refine ⟨[], f1, g1, v, rfl, rfl, h1, fun {H' Z' u' m' v'} hh z o => ?_⟩
    have q2 : OwA ca H' Z' (v' :: _) (u' :: _) (m' ++ g1) := .cons o (A.mono z fun a y => hh a y)
    exact q2
  | _, _, _, j + 1, _, .cons (f := f1) h1 A, h => by
    simp at h
    obtain ⟨l, m, r, v', e1, e2, o, kk⟩ := OwA.foc A h
    refine ⟨f1 ++ l, m, r, v', by rw [e1, List.append_assoc], by simpa using e2, o, fun {H' Z' u' m' v'} hh z o => ?_⟩
    rw [List.append_assoc]
    exact .cons (h1.mono z fun a y => hh a (by simp [y])) (kk (fun a y => hh a (by simp at y ⊢; rcases y with y | y <;> simp [y])) z o)
/-- a node apart, of the tree in slot i -/
structure FocS (ca : Ks) (M H Z : Hp) (σ : St) (ρ : List Ent) (w : List Addr) (i : Nat) (v : V) (u : T) (k : T → T) : Prop where
  ex : ∃ L m R, w = L ++ (m ++ R) ∧ Ow ca H Z v u m ∧ ∀ {H' Z' : Hp} {u' : T} {m' : List Addr}, (∀ a ∈ L ++ R, ∀ o, H a = some o → H' a = some o) → Ext Z Z' → Ow ca H' Z' v u' m' → Slots ca H' M Z' σ (ρ.set i (.own (k u'))) (L ++ (m' ++ R))
theorem FocS.mono (x : Ext H H') (z : Ext Z Z') (f : FocS ca M H Z σ ρ w i v u k) : FocS ca M H' Z' σ ρ w i v u k := by
  obtain ⟨L, m, R, e, o, kk⟩ := f.ex
  exact ⟨L, m, R, e, o.mono z fun a _ o y => x a o y, fun hh z2 o2 => kk (fun a q o y => hh a q o (x a o y)) (z.trans z2) o2⟩
theorem set_same {σ : St} {i : Nat} {x : Option V} (e1 : σ[i]? = some x) : σ.set i x = σ := by
  apply List.ext_getElem?
  intro j
  rw [List.getElem?_set]
  split
  · rename_i q; subst q
    split
    · exact e1.symm
    · rename_i q; rw [List.getElem?_eq_none (by omega)]
  · rfl
theorem FocS.name (s : Slots ca H M Z σ ρ w) (h : ρ[i]? = some (.own u)) : ∃ v, σ[i]? = some (some v) ∧ FocS ca M H Z σ ρ w i v u id := by
  obtain ⟨x, l, f, r, e1, e2, sl, kk⟩ := s.split h
  cases sl with
  | @own v _ _ o =>
    refine ⟨v, e1, l, f, r, e2, o, fun {H' Z' u' m'} hh z o' => ?_⟩
    have q := kk (x' := some v) hh z (.own o')
    rw [set_same e1] at q
    exact q
theorem FocS.key {x : Key} {ps : List (Key × T)} {u : T} (f : FocS ca M H Z σ ρ w i v (.dct true ps) k) (h : getK ps x = some u) :
    ∃ a ks y, v = .ref a ∧ rdo H a = some (.dK ks) ∧ getK ks x = some y ∧ FocS ca M H Z σ ρ w i y u (fun t => k (.dct true (putT ps x t))) := by
  obtain ⟨L, m, R, e, o, kk⟩ := f.ex
  cases o with
  | @dctO a ks _ fp e1 ek A nd =>
    obtain ⟨l, m1, r, y, f1, f2, o1, k1⟩ := OwP.foc ek A h
    refine ⟨a, ks, y, rfl, e1, f2, L ++ (a :: l), m1, r ++ R, by rw [e, f1]; simp, o1, fun {H' Z' u' m'} hh z o' => ?_⟩
    have q := k1 (v' := y) (fun b y => hh b (by simp at y ⊢; rcases y with y | y <;> simp [y])) z o'
    rw [putT_same f2] at q
    have q2 := kk (fun b y => hh b (by simp at y ⊢; rcases y with y | y <;> simp [y])) z (Ow.dctO (rdo_at (hh a (by simp)) e1) (by
      have := putT_keys (f := fun _ _ _ => True) (k := x) (x := y) (y := u') ek
      rw [putT_same f2] at this; exact this) q (putT_nodup nd))
    simpa using q2
theorem FocS.idx {j : Nat} {ts : List T} {u : T} (f : FocS ca M H Z σ ρ w i v (.lst true ts) k) (h : ts[j]? = some u) :
    ∃ a xs y, v = .ref a ∧ H a = some (.lst xs) ∧ xs.length = ts.length ∧ xs[j]? = some y ∧ FocS ca M H Z σ ρ w i y u (fun t => k (.lst true (ts.set j t))) := by
  obtain ⟨L, m, R, e, o, kk⟩ := f.ex
  cases o with
  | @lstO a xs _ fp e1 A =>
    obtain ⟨l, m1, r, y, f1, f2, o1, k1⟩ := OwA.foc A h
    refine ⟨a, xs, y, rfl, e1, A.length, f2, L ++ (a :: l), m1, r ++ R, by rw [e, f1]; simp, o1, fun {H' Z' u' m'} hh z o' => ?_⟩
    have q := k1 (v' := y) (fun b y => hh b (by simp at y ⊢; rcases y with y | y <;> simp [y])) z o'
    have es : xs.set j y = xs := by
      apply List.ext_getElem?
      intro n
      rw [List.getElem?_set]
      split
      · rename_i q; subst q
        split
        · exact f2.symm
        · rename_i q; rw [List.getElem?_eq_none (by omega)]
      · rfl
    rw [es] at q
    have q2 := kk (fun b y => hh b (by simp at y ⊢; rcases y with y | y <;> simp [y])) z (Ow.lstO (hh a (by simp) _ e1) q)
    simpa using q2
/-- the node's own thing is changed -/
theorem FocS.upd {a : Addr} {o : HO} {u' : T} (b : Base P Z H (fp ++ w)) (f : FocS ca M H Z σ ρ w i (.ref a) u k)
    (g : ∀ m, Ow ca H Z (.ref a) u m → (fp ++ m).Nodup → a ∈ m ∧ ∃ m', (∀ x, cnt x m' ≤ cnt x m + cnt x fp) ∧ ∀ {H' : Hp}, (∀ x ∈ fp ++ m, x ≠ a → ∀ o, H x = some o → H' x = some o) → H' a = some o → Ow ca H' Z (.ref a) u' m') (ho : ownO o = true := by rfl) :
    ∃ w', Base P Z (L2.upd H a o) w' ∧ Slots ca (L2.upd H a o) M Z σ (ρ.set i (.own (k u'))) w' := by
  obtain ⟨L, m, R, e, ow, kk⟩ := f.ex
  subst e
  have nd := nd_cnt.mp b.nd
  have hn : (fp ++ m).Nodup := nd_cnt.mpr fun x => by
    have := nd x
    simp only [cnt_app] at this ⊢
    omega
  obtain ⟨am, m', hc, hk⟩ := g m ow hn
  have ac := cnt_mem.mp am
  refine ⟨L ++ (m' ++ R), (b.put (o := o) (by simp [am]) ho).cnt (fun x => by have := hc x; simp only [cnt_app]; omega), ?_⟩
  refine kk (fun x q o' y => ?_) (Ext.refl _) (hk (fun x q n o' y => ?_) upd_same)
  · have : x ≠ a := fun e => by
      subst e
      have h1 := nd x
      have h2 := cnt_mem.mp q
      simp only [cnt_app] at h1 h2
      omega
    rw [upd_ne this]; exact y
  · rw [upd_ne n]; exact y
end
/-! ### places -/
structure SPl (c : VC) (W : WX) (t : TE) (i : Nat) (m : List Ent → R (T × (T → T))) : Prop where
  go : ∀ (M P Z H : Hp) (σ : St) (ρ : List Ent) (w : List Addr) (Q : VK), Ext M P → Base P Z H w → Slots c.ca H M Z σ ρ w → (match m ρ with
    | .ok uk ρ' => ∀ v H' Z', Ext H H' → Ext Z Z' → ZN P Z Z' → Base P Z' H' w → FocS c.ca M H' Z' σ ρ' w i v uk.1 uk.2 → Slots c.ca H' M Z' σ ρ' w → Q v H'
    | .err C d ρ' => ∀ x vd H' Z' w', Ext Z Z' → ZN P Z Z' → Base P Z' H' w' → Z' x = some (.xd [(c.ef C, vd)]) → Ow c.ca H' Z' vd d [] → Slots c.ca H' M Z' σ ρ' w' → W (.ref (c.ca.cl C)) (some x) σ H'
    | .fail => False) → t σ H Q
def mPlName (i : Nat) : List Ent → R (T × (T → T)) := fun ρ => match ρ[i]? with
  | some (.own t) => .ok (t, id) ρ
  | _ => .fail
def mPlFld (C x : Str) (m : List Ent → R (T × (T → T))) : List Ent → R (T × (T → T)) := fun ρ => (m ρ).bind fun uk ρ' => match uk.1 with
  | .ins true C' fs => if C' = C then (match getK fs x with
    | some u => .ok (u, fun t => uk.2 (.ins true C (putT fs x t))) ρ'
    | none => .fail) else .fail
  | _ => .fail
def mPlItem (m : List Ent → R (T × (T → T))) (mi : List Ent → R Ent) : List Ent → R (T × (T → T)) := fun ρ => (m ρ).bind fun uk ρ1 => (mi ρ1).bind fun e ρ2 => match uk.1 with
  | .lst true ts => (match e.t with
    | .int j => (match ixN ts.length j with
      | some n => (match ts[n]? with
        | some u => .ok (u, fun t => uk.2 (.lst true (ts.set n t))) ρ1
        | none => .fail)
      | none => .fail)
    | _ => .fail)
  | .dct true ps => (match e.t.key with
    | some k => (match getK ps k with
      | some u => .ok (u, fun t => uk.2 (.dct true (putT ps k t))) ρ1
      | none => .fail)
    | none => .fail)
  | _ => .fail
section
variable {c : VC} {W : WX} {t ti : TE} {i : Nat} {m : List Ent → R (T × (T → T))} {mi : List Ent → R Ent}
theorem SPl.name (i : Nat) : SPl c W (tV i) i (mPlName i) := by
  refine ⟨fun M P Z H σ ρ w Q mp b s hf => ?_⟩
  unfold mPlName at hf
  split at hf
  · rename_i uk ρ' e
    split at e
    · rename_i t et
      cases e
      obtain ⟨v, e1, f⟩ := FocS.name s et
      unfold tV
      rw [e1]
      exact hf v H Z (Ext.refl _) (Ext.refl _) ZN.refl b f s
    · cases e
  · rename_i e
    split at e <;> cases e
  · exact hf.elim
theorem SPl.item (h : SPl c W t i m) (h2 : SV c W true ti mi) : SPl c W (tOp rItem t ti) i (mPlItem m mi) := by
  refine ⟨fun M P Z H σ ρ w Q mp b s hf => ?_⟩
  unfold tOp
  refine h.go M P Z H σ ρ w _ mp b s ?_
  unfold mPlItem at hf
  cases e : m ρ with
  | fail => rw [e] at hf; exact hf
  | err C d ρ' => rw [e] at hf; exact hf
  | ok uk ρ' =>
    rw [e] at hf
    obtain ⟨u, k⟩ := uk
    dsimp only [R.bind] at hf ⊢
    intro v H1 Z1 x1 z1 n1 b1 f1 s1
    refine h2.go M P Z1 H1 σ ρ' w _ mp b1 s1 ?_
    cases e2 : mi ρ' with
    | fail => rw [e2] at hf; exact hf
    | err C d ρ2 =>
      rw [e2] at hf
      exact fun x vd H' Z' w' z n => hf x vd H' Z' w' (z1.trans z) (n1.trans n)
    | ok en ρ2 =>
      rw [e2] at hf
      dsimp only [R.bind] at hf
      intro iv H2 Z2 fp w2 z2 n2 b2 ev s2 ro
      obtain ⟨x2, rfl⟩ := ro rfl
      obtain ⟨g, o⟩ := ev.ow
      have f2 : FocS c.ca M H2 Z2 σ ρ' w2 i v u k := f1.mono x2 z2
      have s3 := s1.mono z2 fun a q o y => x2 a o y
      cases u with
      | lst o ts =>
        cases o with
        | false => exact hf.elim
        | true =>
          dsimp only at hf
          generalize en.t = tr at hf o
          cases tr with
          | int j =>
            obtain rfl := ow_int o
            dsimp only at hf
            cases g1 : ixN ts.length j with
            | none => rw [g1] at hf; exact hf.elim
            | some n =>
              rw [g1] at hf
              dsimp only at hf
              cases g2 : ts[n]? with
              | none => rw [g2] at hf; exact hf.elim
              | some u1 =>
                rw [g2] at hf
                obtain ⟨a, xs, y, rfl, e1, el, e2, f3⟩ := f2.idx g2
                simp only [rItem, rdo_of e1 (fun _ _ y => nomatch y), atI, el, g1, Option.bind_some, e2]
                exact hf y H2 Z2 (x1.trans x2) (z1.trans z2) (n1.trans n2) b2.drop f3 s3
          | non => exact hf.elim
          | bl k => exact hf.elim
          | str x => exact hf.elim
          | lst k ts => exact hf.elim
          | dct k ts => exact hf.elim
          | tup ts => exact hf.elim
          | scr ts => exact hf.elim
          | dtp _ _ _ => exact hf.elim
          | ins k C ts => exact hf.elim
      | dct o ps =>
        cases o with
        | false => exact hf.elim
        | true =>
          dsimp only at hf
          cases g0 : en.t.key with
          | none => rw [g0] at hf; exact hf.elim
          | some kk =>
            rw [g0] at hf
            dsimp only at hf
            cases g2 : getK ps kk with
            | none => rw [g2] at hf; exact hf.elim
            | some u1 =>
              rw [g2] at hf
              obtain ⟨a, ks, y, rfl, e1, e2, f3⟩ := f2.key g2
              simp only [rItem, e1, (ow_key o g0).1, valV_getK, e2]
              exact hf y H2 Z2 (x1.trans x2) (z1.trans z2) (n1.trans n2) b2.drop f3 s3
      | non => exact hf.elim
      | bl k => exact hf.elim
      | int i => exact hf.elim
      | str x => exact hf.elim
      | dtp _ _ _ => exact hf.elim
      | ins k C ts => exact hf.elim
      | tup ts => exact hf.elim
      | scr ts => exact hf.elim
end
end Rm
/-! Rm, part V8: what is changed at places. -/
namespace Rm
open PySem PySem.Spec L2
open PyProof.Rows hiding St
variable [Tb]
section
variable {ca : Ks} {M P Z Z' H H' : Hp} {w fp : List Addr} {σ : St} {ρ : List Ent} {i : Nat} {v : V} {u : T} {k : T → T}
theorem nd_off {a : Addr} {f0 fp : List Addr} (nd : (fp ++ (a :: f0)).Nodup) {x : Addr} (h : x ∈ f0 ∨ x ∈ fp) : x ≠ a := fun e => by
  subst e
  have h1 := nd_cnt.mp nd x
  simp only [cnt_app] at h1
  rw [cnt_cons] at h1
  have h3 : cnt x [x] = 1 := by simp [cnt]
  rcases h with h | h
  · have h2 := cnt_mem.mp h
    omega
  · have h2 := cnt_mem.mp h
    omega
/-- a list's items are changed -/
theorem FocS.lst {ts : List T} (b : Base P Z H (fp ++ w)) (f : FocS ca M H Z σ ρ w i v (.lst true ts) k) : ∃ a xs, v = .ref a ∧ H a = some (.lst xs) ∧ xs.length = ts.length ∧
    ∀ {xs' : List V} {ts' : List T}, (∀ f0, OwA ca H Z xs ts f0 → ∃ f', (∀ x, cnt x f' ≤ cnt x f0 + cnt x fp) ∧ OwA ca H Z xs' ts' f') →
      ∃ w', Base P Z (L2.upd H a (.lst xs')) w' ∧ Slots ca (L2.upd H a (.lst xs')) M Z σ (ρ.set i (.own (k (.lst true ts')))) w' := by
  obtain ⟨L, m, R, e, o, kk⟩ := id f.ex
  cases o with
  | @lstO a xs _ f0 e1 A =>
    refine ⟨a, xs, rfl, e1, A.length, fun {xs' ts'} g => ?_⟩
    refine FocS.upd b f fun m ow nd => ?_
    cases ow with
    | @lstO _ xs1 _ f1 e2 A1 =>
      have : xs1 = xs := by rw [e1] at e2; cases e2; rfl
      subst this
      obtain ⟨f', hc, A'⟩ := g f1 A1
      refine ⟨List.mem_cons_self, a :: f', fun x => ?_, fun {H'} hh hn => .lstO hn (A'.mono (Ext.refl _) fun x q o y => ?_)⟩
      · have := hc x
        rw [cnt_cons, cnt_cons (a := f1)]; omega
      · have q2 : x ∈ f1 ∨ x ∈ fp := by
          have h1 := hc x
          have h2 := cnt_mem.mp q
          by_cases z : 0 < cnt x f1
          · exact Or.inl (cnt_mem.mpr z)
          · exact Or.inr (cnt_mem.mpr (by omega))
        exact hh x (by simp; rcases q2 with z | z <;> simp [z]) (nd_off nd q2) o y
theorem FocS.dct {ps : List (Key × T)} (b : Base P Z H (fp ++ w)) (f : FocS ca M H Z σ ρ w i v (.dct true ps) k) : ∃ a ks, v = .ref a ∧ H a = some (.dK ks) ∧ ks.map (·.1) = ps.map (·.1) ∧ (ks.map (·.1)).Nodup ∧
    ∀ {ks' : List (Key × V)} {ps' : List (Key × T)}, ks'.map (·.1) = ps'.map (·.1) → (ps'.map (·.1)).Nodup → (∀ f0, OwA ca H Z (ks.map (·.2)) (ps.map (·.2)) f0 → ∃ f', (∀ x, cnt x f' ≤ cnt x f0 + cnt x fp) ∧ OwA ca H Z (ks'.map (·.2)) (ps'.map (·.2)) f') →
      ∃ w', Base P Z (L2.upd H a (.dK ks')) w' ∧ Slots ca (L2.upd H a (.dK ks')) M Z σ (ρ.set i (.own (k (.dct true ps')))) w' := by
  obtain ⟨L, m, R, e, o, kk⟩ := id f.ex
  cases o with
  | @dctO a ks _ f0 e1' ek A n0 =>
    have e1 : H a = some (.dK ks) := (b.hw a (by rw [e]; simp)).rd e1'
    refine ⟨a, ks, rfl, e1, ek, by rw [ek]; exact n0, fun {ks' ps'} ek' nn g => ?_⟩
    refine FocS.upd b f fun m ow nd => ?_
    cases ow with
    | @dctO _ ks1 _ f1 e2 ek1 A1 _ =>
      have : ks1 = ks := by rw [e1'] at e2; cases e2; rfl
      subst this
      obtain ⟨f', hc, A'⟩ := g f1 A1
      refine ⟨List.mem_cons_self, a :: f', fun x => ?_, fun {H'} hh hn => .dctO (rdo_of hn fun _ _ y => nomatch y) ek' (A'.mono (Ext.refl _) fun x q o y => ?_) nn⟩
      · have := hc x
        rw [cnt_cons, cnt_cons (a := f1)]; omega
      · have q2 : x ∈ f1 ∨ x ∈ fp := by
          have h1 := hc x
          have h2 := cnt_mem.mp q
          by_cases z : 0 < cnt x f1
          · exact Or.inl (cnt_mem.mpr z)
          · exact Or.inr (cnt_mem.mpr (by omega))
        exact hh x (by simp; rcases q2 with z | z <;> simp [z]) (nd_off nd q2) o y
theorem FocS.dtp {zs : List (List Key)} {ps : List T} (b : Base P Z H (fp ++ w)) (f : FocS ca M H Z σ ρ w i v (.dtp true zs ps) k) : ∃ a ks, v = .ref a ∧ H a = some (.dT ks) ∧ ks.map (·.1) = zs ∧ zs.Nodup ∧
    ∀ {ks' : List (List Key × V)} {zs' : List (List Key)} {ps' : List T}, ks'.map (·.1) = zs' → zs'.Nodup → (∀ f0, OwA ca H Z (ks.map (·.2)) ps f0 → ∃ f', (∀ x, cnt x f' ≤ cnt x f0 + cnt x fp) ∧ OwA ca H Z (ks'.map (·.2)) ps' f') →
      ∃ w', Base P Z (L2.upd H a (.dT ks')) w' ∧ Slots ca (L2.upd H a (.dT ks')) M Z σ (ρ.set i (.own (k (.dtp true zs' ps')))) w' := by
  obtain ⟨L, m, R, e, o, kk⟩ := id f.ex
  cases o with
  | @dtpO a ks _ _ f0 e1' ek A n0 =>
    have e1 : H a = some (.dT ks) := (b.hw a (by rw [e]; simp)).rd e1'
    refine ⟨a, ks, rfl, e1, ek, n0, fun {ks' zs' ps'} ek' nn g => ?_⟩
    refine FocS.upd b f fun m ow nd => ?_
    cases ow with
    | @dtpO _ ks1 _ _ f1 e2 ek1 A1 _ =>
      have : ks1 = ks := by rw [e1'] at e2; cases e2; rfl
      subst this
      obtain ⟨f', hc, A'⟩ := g f1 A1
      refine ⟨List.mem_cons_self, a :: f', fun x => ?_, fun {H'} hh hn => .dtpO (rdo_of hn fun _ _ y => nomatch y) ek' (A'.mono (Ext.refl _) fun x q o y => ?_) nn⟩
      · have := hc x
        rw [cnt_cons, cnt_cons (a := f1)]; omega
      · have q2 : x ∈ f1 ∨ x ∈ fp := by
          have h1 := hc x
          have h2 := cnt_mem.mp q
          by_cases z : 0 < cnt x f1
          · exact Or.inl (cnt_mem.mpr z)
          · exact Or.inr (cnt_mem.mpr (by omega))
        exact hh x (by simp; rcases q2 with z | z <;> simp [z]) (nd_off nd q2) o y
theorem putT_in {κ α : Type} [DecidableEq κ] : ∀ {ks : List (κ × α)} {k : κ} {v : α}, k ∈ ks.map (·.1) → (putT ks k v).map (·.1) = ks.map (·.1)
  | [], _, _, h => by simp at h
  | (k', x) :: r, k, v, h => by
    unfold putT
    by_cases q : k' = k
    · rw [if_pos q]; simp [q]
    · rw [if_neg q, List.map_cons, List.map_cons, putT_in (ks := r) (by simpa [Ne.symm q] using h)]
theorem putK_new {kvs : List (List Key × V)} {k : List Key} {v : V} (h : k ∉ kvs.map (·.1)) : putK kvs k v = kvs ++ [(k, v)] := by
  unfold putK
  rw [if_neg]
  intro q
  obtain ⟨x, hx, e⟩ := List.any_eq_true.mp q
  exact h (List.mem_map.mpr ⟨x, hx, of_decide_eq_true e⟩)
theorem FocS.ins {C : Str} {ps : List (Str × T)} (b : Base P Z H (fp ++ w)) (f : FocS ca M H Z σ ρ w i v (.ins true C ps) k) : ∃ a dx ks, v = .ref a ∧ H a = some (.ins (ca.cl C) dx ks) ∧ ks.map (·.1) = ps.map (·.1) ∧
    ∀ {ks' : List (Str × V)} {ps' : List (Str × T)}, ks'.map (·.1) = ps'.map (·.1) → ((ps.map (·.1)).Nodup → (ps'.map (·.1)).Nodup) → (∀ f0, OwA ca H Z (ks.map (·.2)) (ps.map (·.2)) f0 → ∃ f', (∀ x, cnt x f' ≤ cnt x f0 + cnt x fp) ∧ OwA ca H Z (ks'.map (·.2)) (ps'.map (·.2)) f') →
      ∃ w', Base P Z (L2.upd H a (.ins (ca.cl C) dx ks')) w' ∧ Slots ca (L2.upd H a (.ins (ca.cl C) dx ks')) M Z σ (ρ.set i (.own (k (.ins true C ps')))) w' := by
  obtain ⟨L, m, R, e, o, kk⟩ := id f.ex
  cases o with
  | @insO a dx _ ks _ f0 e1 ek A n0 =>
    refine ⟨a, dx, ks, rfl, e1, ek, fun {ks' ps'} ek' nn g => ?_⟩
    refine FocS.upd b f fun m ow nd => ?_
    cases ow with
    | @insO _ dx1 _ ks1 _ f1 e2 ek1 A1 _ =>
      have : ks1 = ks := by rw [e1] at e2; cases e2; rfl
      subst this
      obtain ⟨f', hc, A'⟩ := g f1 A1
      refine ⟨List.mem_cons_self, a :: f', fun x => ?_, fun {H'} hh hn => .insO hn ek' (A'.mono (Ext.refl _) fun x q o y => ?_) (nn n0)⟩
      · have := hc x
        rw [cnt_cons, cnt_cons (a := f1)]; omega
      · have q2 : x ∈ f1 ∨ x ∈ fp := by
          have h1 := hc x
          have h2 := cnt_mem.mp q
          by_cases z : 0 < cnt x f1
          · exact Or.inl (cnt_mem.mpr z)
          · exact Or.inr (cnt_mem.mpr (by omega))
        exact hh x (by simp; rcases q2 with z | z <;> simp [z]) (nd_off nd q2) o y
end
/-! ### o.f = e -/
/-- the tree with a field set -/
def setFld (C f : Str) (t : T) : T → Option T := fun u => match u with
  | .ins true C' fs => if C' = C ∧ fs.length < 1000 then some (.ins true C (putT fs f t)) else none
  | _ => none
def mSetF (i : Nat) (C f : Str) (mp : List Ent → R (T × (T → T))) (me : List Ent → R Ent) : List Ent → O := fun ρ => (me ρ).then fun e ρ1 => (mp ρ1).then fun uk ρ2 => match e.keep with
  | some t => (match setFld C f t uk.1 with
    | some u => .nx (ρ2.set i (.own (uk.2 u)))
    | none => .fail)
  | none => .fail
/-- o[i] = e -/
def setIx (ix t : T) : T → Option T := fun u => match u with
  | .lst true ts => (match ix with
    | .int j => (match ixN ts.length j with
      | some n => some (.lst true (ts.set n t))
      | none => none)
    | _ => none)
  | .dct true ps => (match ix.key with
    | some k => if ps.length < sizeLine then some (.dct true (putT ps k t)) else none
    | none => none)
  | .dtp true zs ts => (match ix with
    | .tup us => (match keysT us with
      | some k => if ts.length < sizeLine ∧ (zs.any fun z => decide (z = k)) = false then some (.dtp true (zs ++ [k]) (ts ++ [t])) else if ts.length < sizeLine then some (.dtp true zs ((putT (zs.zip ts) k t).map (·.2))) else none
      | none => none)
    | _ => none)
  | _ => none
def mSetI (i : Nat) (mp : List Ent → R (T × (T → T))) (mi me : List Ent → R Ent) : List Ent → O := fun ρ => (me ρ).then fun e ρ1 => (mp ρ1).then fun uk ρ2 => (mi ρ2).then fun ei _ => match e.keep with
  | some t => (match setIx ei.t t uk.1 with
    | some u => .nx (ρ2.set i (.own (uk.2 u)))
    | none => .fail)
  | none => .fail
section
variable {F : FC} {W : WX} {r : Bool} {te to ti : TE} {i : Nat} {mp : List Ent → R (T × (T → T))} {me mi : List Ent → R Ent}
theorem SS.setI (hp : SPl F.c W to i mp) (hi : SV F.c W true ti mi) (he : SV F.c W r te me) : SS F W (tAsg te (gSub to ti rStore)) (mSetI i mp mi me) := by
  refine ⟨fun M P Z H σ ρ w D mp' b s pn hf => ?_⟩
  refine he.go M P Z H σ ρ w _ mp' b s ?_
  unfold mSetI at hf
  cases e : me ρ with
  | fail => rw [e] at hf; exact hf
  | err C d ρ' => rw [e] at hf; exact fin_err pn hf
  | ok en ρ1 =>
    rw [e] at hf
    dsimp only [R.then] at hf
    intro y H1 Z1 fp w1 z1 n1 b1 ev s1 ro
    unfold gSub
    refine hp.go M (Rm.out w1 H1) Z1 H1 σ ρ1 w1 _ (mp'.trans b1.le) b1.out s1 ?_
    cases e2 : mp ρ1 with
    | fail => rw [e2] at hf; exact hf
    | err C d ρ2 =>
      rw [e2] at hf
      exact fun x vd H2 Z2 w2 z2 n2 b2 hx o s2 => fin_err pn hf x vd H2 Z2 w2 (z1.trans z2) (n1.trans (n2.of b1.le)) (b2.less b1.le) hx o s2
    | ok uk ρ2 =>
      rw [e2] at hf
      dsimp only at hf ⊢
      intro v H2 Z2 x2 z2 n2 b2 fo s2
      have b2' := Base.join (fp := fp) (f := []) (w' := w1) b1 b2 n2
      rw [List.append_nil] at b2'
      refine hi.go M (Rm.out w1 H2) Z2 H2 σ ρ2 w1 _ (mp'.trans b2'.le) b2'.out s2 ?_
      cases e3 : mi ρ2 with
      | fail => rw [e3] at hf; exact hf
      | err C d ρ3 =>
        rw [e3] at hf
        exact fun x vd H3 Z3 w3 z3 n3 b3 hx o s3 => fin_err pn hf x vd H3 Z3 w3 ((z1.trans z2).trans z3) ((n1.trans (n2.of b1.le)).trans (n3.of b2'.le)) (b3.less b2'.le) hx o s3
      | ok ei ρ3 =>
      rw [e3] at hf
      dsimp only at hf ⊢
      intro iv H3 Z3 fi w3 z3 n3 b3 evi s3 ro3
      obtain ⟨x3, rfl⟩ := ro3 rfl
      obtain ⟨gi, oi⟩ := evi.ow
      have b3' := Base.join (fp := fp) (f := []) (w' := w3) b2' b3.drop n3
      rw [List.append_nil] at b3'
      have fo3 := fo.mono x3 z3
      split at hf
      rotate_left
      · exact hf.elim
      rename_i t et
      have ot := ((ev.keep et).mono z2 fun a q o y => x2 a o y).mono z3 fun a q o y => x3 a o y
      cases eu : setIx ei.t t uk.1 with
      | none => rw [eu] at hf; exact hf.elim
      | some u' =>
        rw [eu] at hf
        obtain ⟨u, k⟩ := uk
        unfold setIx at eu
        dsimp only at eu fo3 hf
        have fin := fun (H4 : Hp) (w4 : List Addr) b4 s4 => hf σ H4 Z3 w4 ((z1.trans z2).trans z3) ((n1.trans (n2.of b1.le)).trans (n3.of b2'.le)) b4 s4 pn
        generalize ei.t = tr at eu oi
        split at eu
        · rename_i ts
          split at eu
          · rename_i j
            obtain rfl := ow_int oi
            split at eu
            · rename_i n en'
              cases eu
              obtain ⟨a, xs, rfl, ea, el, kk⟩ := FocS.lst b3' fo3
              have hn : n < ts.length := (ixN_seq en').2.1
              obtain ⟨w4, b4, s4⟩ := kk (xs' := xs.set n y) (ts' := ts.set n t) (fun f0 A => by
                obtain ⟨l, m, r, y0, f1, f2, o1, k1⟩ := A.foc (List.getElem?_eq_getElem hn)
                exact ⟨_, fun x => by rw [f1]; simp only [cnt_app]; omega, k1 (v' := y) (u' := t) (fun _ _ _ y => y) (Ext.refl _) ot⟩)
              simp only [rStore, ea, el, en']
              exact fin _ w4 b4 s4
            · cases eu
          · cases eu
        · rename_i ps
          split at eu
          · rename_i kq eq
            split at eu
            · rename_i hl
              cases eu
              obtain ⟨a, ks, rfl, ea, ek, nn, kk⟩ := FocS.dct b3' fo3
              obtain ⟨w4, b4, s4⟩ := kk (ks' := putT ks kq y) (ps' := putT ps kq t) (putT_keys (fun _ _ _ => True) ek) (putT_nodup (by rw [← ek]; exact nn)) (fun f0 A => (OwP.put ek A ot).imp fun f' ⟨a, b⟩ => ⟨b, a⟩)
              have hl2 : ks.length = ps.length := by have := congrArg List.length ek; simpa using this
              simp only [rStore, ea, (ow_key oi eq).1]
              refine ⟨by omega, ?_⟩
              rw [putK_putT nn]
              exact fin _ w4 b4 s4
            · cases eu
          · cases eu
        · rename_i zs ts
          split at eu
          · rename_i us
            split at eu
            · rename_i kq eq
              split at eu
              · rename_i hl
                cases eu
                obtain ⟨a, ks, rfl, ea, ek, nn, kk⟩ := FocS.dtp b3' fo3
                obtain ⟨c, ys, rfl, ec, _, A2⟩ := ow_tup b3' oi
                have hnz : kq ∉ zs := fun q => by have := List.any_eq_false.mp hl.2 kq q; simp at this
                have hnk : kq ∉ ks.map (·.1) := by rw [ek]; exact hnz
                have hl2 : ks.length = ts.length := by
                  obtain ⟨L, m, R, _, o, _⟩ := fo3.ex
                  obtain ⟨a2, ks2, f2, e1, e2, e3, A3⟩ := ow_dtp b3' o
                  cases e1
                  rw [rdo_of ea (fun _ _ y => nomatch y)] at e2
                  cases e2
                  have := A3.length
                  simpa using this
                obtain ⟨w4, b4, s4⟩ := kk (ks' := ks ++ [(kq, y)]) (zs' := zs ++ [kq]) (ps' := ts ++ [t]) (by rw [List.map_append, ek]; rfl) (List.nodup_append.mpr ⟨nn, by simp, fun a q b q2 => by rw [List.mem_singleton.mp q2]; exact fun e => hnz (e ▸ q)⟩) (fun f0 A => ⟨f0 ++ fp, fun x => by rw [cnt_app]; omega, by rw [List.map_append]; exact A.append1 ot⟩)
                simp only [rStore, ea, ec, keysT_ow A2 eq]
                refine ⟨by omega, ?_⟩
                rw [putK_new hnk]
                exact fin _ w4 b4 s4
              · split at eu
                · rename_i hl0 hl
                  cases eu
                  obtain ⟨a, ks, rfl, ea, ek, nn, kk⟩ := FocS.dtp b3' fo3
                  obtain ⟨c, ys, rfl, ec, _, A2⟩ := ow_tup b3' oi
                  have hin : kq ∈ zs := Classical.byContradiction fun q => hl0 ⟨hl, List.any_eq_false.mpr fun z hz e => q (of_decide_eq_true e ▸ hz)⟩
                  have hl2 : ks.length = ts.length := by
                    obtain ⟨L, m, R, _, o, _⟩ := fo3.ex
                    obtain ⟨a2, ks2, f2, e1, e2, e3, A3⟩ := ow_dtp b3' o
                    cases e1
                    rw [rdo_of ea (fun _ _ y => nomatch y)] at e2
                    cases e2
                    have := A3.length
                    simpa using this
                  have hl3 : zs.length = ts.length := by rw [← ek, List.length_map]; exact hl2
                  have hz1 : (zs.zip ts).map (·.1) = zs := List.map_fst_zip (by omega)
                  have hz2 : (zs.zip ts).map (·.2) = ts := List.map_snd_zip (by omega)
                  obtain ⟨w4, b4, s4⟩ := kk (ks' := putT ks kq y) (zs' := zs) (ps' := (putT (zs.zip ts) kq t).map (·.2)) (by rw [putT_in (by rw [ek]; exact hin)]; exact ek) nn (fun f0 A => (OwP.put (by rw [ek, hz1]) (by rw [hz2]; exact A) ot).imp fun f' ⟨a, b⟩ => ⟨b, a⟩)
                  simp only [rStore, ea, ec, keysT_ow A2 eq]
                  refine ⟨by omega, ?_⟩
                  rw [putK_putT (by rw [ek]; exact nn)]
                  exact fin _ w4 b4 s4
                · cases eu
            · cases eu
          · cases eu
        · cases eu
end
/-! ### methods that change a list -/
/-- what a method makes of the node, and what it gives -/
structure Mut (ca : Ks) (r : V → List V → Hp → VK → Prop) (f : T → List Ent → Option (T × T)) : Prop where
  go : ∀ (M P Z H : Hp) (σ : St) (ρ : List Ent) (fp w : List Addr) (i : Nat) (v : V) (u u' res : T) (k : T → T) (vs : List V) (es : List Ent) (Q : VK), Base P Z H (fp ++ w) → FocS ca M H Z σ ρ w i v u k → EntVs ca H Z vs es fp → f u es = some (u', res) →
    (∀ H' w' y, Base P Z H' w' → Slots ca H' M Z σ (ρ.set i (.own (k u'))) w' → Ow ca H' Z y res [] → Q y H') → r v vs H Q
/-- x.m(e, ..), x a name -/
def mMethN (i : Nat) (f : T → List Ent → Option (T × T)) (ms : List Ent → R (List Ent)) : List Ent → R Ent := fun ρ => match ρ[i]? with
  | some (.own (.lst _ _)) => (ms ρ).bind fun es ρ1 => (match ρ1[i]? with
    | some (.own u) => (match f u es with
      | some (u, res) => .ok (.own res) (ρ1.set i (.own u))
      | none => .fail)
    | _ => .fail)
  | _ => .fail
section
variable {c : VC} {W : WX} {r : Bool} {K : PySem.W.Frag} {to : TE} {ta : TA} {i : Nat} {mp : List Ent → R (T × (T → T))} {ms : List Ent → R (List Ent)} {rd : V → List V → Hp → VK → Prop} {f : T → List Ent → Option (T × T)}
theorem tyV_lst {H : Hp} {a : Addr} {xs : List V} (h : H a = some (.lst xs)) : tyV K "list" (.ref a) H := Or.inl ⟨rfl, xs, Or.inl (Or.inl h)⟩
theorem SV.methN (mu : Mut c.ca rd f) (h : SA c W r ta ms) : SV c W false (tBM K "list" rd (tV i) ta) (mMethN i f ms) := by
  refine ⟨fun M P Z H σ ρ w Q mp' b s hf => ?_⟩
  unfold mMethN at hf
  split at hf
  rotate_left
  · exact hf.elim
  rename_i ol ts ei
  obtain ⟨v, e1, fo⟩ := FocS.name s ei
  have ty : tyV K "list" v H := by
    obtain ⟨L, m, R, e, o, _⟩ := fo.ex
    obtain ⟨a, xs, _, rfl, ea, _⟩ := ow_lst b o
    exact tyV_lst ea
  unfold tBM tV
  rw [e1]
  refine ⟨ty, h.go M P Z H σ ρ w _ mp' b s ?_⟩
  cases e2 : ms ρ with
  | fail => rw [e2] at hf; exact hf
  | err C d ρ2 => rw [e2] at hf; exact hf
  | ok es ρ1 =>
    rw [e2] at hf
    dsimp only [R.bind] at hf
    intro vs H2 Z2 fp w2 z2 n2 b2 evs s2 ro
    split at hf
    rotate_left
    · exact hf.elim
    rename_i u eu
    obtain ⟨v', e1', fo2⟩ := FocS.name s2 eu
    rw [e1] at e1'
    cases e1'
    cases ef : f u es with
    | none => rw [ef] at hf; exact hf.elim
    | some q =>
      obtain ⟨u', res⟩ := q
      rw [ef] at hf
      exact mu.go M P Z2 H2 σ ρ1 fp w2 i v u u' res id vs es Q b2 fo2 evs ef fun H3 w3 y b3 s3 oy => hf y H3 Z2 [] w3 z2 n2 b3 (.own oy) s3 fun q => nomatch q
def fAppend : T → List Ent → Option (T × T) := fun u es => match u, es with
  | .lst true ts, [e] => (match e.keep with
    | some t => if ts.length < sizeLine then some (.lst true (ts ++ [t]), .non) else none
    | none => none)
  | _, _ => none
theorem mu_append {ca : Ks} : Mut ca mAppend fAppend := ⟨fun M P Z H σ ρ fp w i v u u' res k vs es Q b fo evs ef q => by
  unfold fAppend at ef
  split at ef
  · rename_i ts en
    split at ef
    · rename_i t et
      split at ef
      · rename_i hl
        cases ef
        cases evs with
        | @cons y _ _ _ f1 _ ev A =>
        cases A
        rw [List.append_nil] at b
        obtain ⟨a, xs, rfl, ea, el, kk⟩ := FocS.lst b fo
        obtain ⟨w3, b3, s3⟩ := kk (xs' := xs ++ [y]) (ts' := ts ++ [t]) fun f0 A => ⟨f0 ++ f1, fun x => by simp only [cnt_app]; omega, A.append1 (ev.keep et)⟩
        simp only [mAppend, ea]
        exact ⟨by omega, q _ w3 _ b3 s3 .non⟩
      · cases ef
    · cases ef
  · cases ef⟩
end
end Rm
/-! Rm, part V9: promises by meaning; calls. -/
namespace Rm
open PySem PySem.Spec L2
open PyProof.Rows hiding St
variable [Tb]
/-- what is wanted behind a call -/
def FinF (c : VC) (P Z : Hp) (vs : List V) (Q : VK) (E : XK) : R Ent → Prop
  | .ok e ρ' => ∀ v H' Z' fp w', Ext Z Z' → ZN P Z Z' → Base P Z' H' (fp ++ w') → EntV c.ca H' Z' v e fp → Slots c.ca H' P Z' (vs.map some) ρ' w' → Q v H'
  | .err C d ρ' => ∀ x vd H' Z' w', Ext Z Z' → ZN P Z Z' → Base P Z' H' w' → Z' x = some (.xd [(c.ef C, vd)]) → Ow c.ca H' Z' vd d [] → Slots c.ca H' P Z' (vs.map some) ρ' w' → E (.ref (c.ca.cl C)) (some x) H'
  | .fail => False
/-- no exception is at hand -/
abbrev VC.base (c : VC) : VC := ⟨⟨c.ca.cl, fun _ => none⟩, c.ef⟩
/-- the promise of a def that means m -/
def spV (c : VC) (n : Nat) (m : List Ent → R Ent) : Sp := fun vs H Q E => vs.length = n ∧ ∃ Z w ρ, Base (out w H) Z H w ∧ Slots c.base.ca H (out w H) Z (vs.map some) ρ w ∧ FinF c.base (out w H) Z vs Q E (m ρ)
/-- .. of a def that keeps no tables -/
abbrev spV0 (c : VC) (n : Nat) (m : List Ent → R Ent) : Sp := @spV Tb.none c n m
/-- the heap without what is owned (tables stand in it) -/
def out0 (w : List Addr) (H : Hp) : Hp := @out Tb.none w H
theorem out0_some {w : List Addr} {H : Hp} {a : Addr} {o : HO} (h : out0 w H a = some o) : a ∉ w ∧ H a = some o := by
  unfold out0 out at h
  split at h
  · cases h
  · rename_i n; exact ⟨fun q => n (.inl q), h⟩
theorem out0_of {w : List Addr} {H : Hp} {a : Addr} {o : HO} (n : a ∉ w) (h : H a = some o) : out0 w H a = some o := by
  unfold out0 out
  rw [if_neg (fun q => q.elim n fun q => by cases q)]; exact h
theorem out0_in {w : List Addr} {H : Hp} {a : Addr} (h : a ∈ w) : out0 w H a = none := by
  unfold out0 out
  rw [if_pos (.inl h)]
/-- tables behind a call of a def that keeps none -/
theorem TbOk.call0 {T T2 : List (Addr × Str)} {P Z1 Z2 H1 H2 Mc : Hp} {w2 : List Addr} (tb : TbOk T P Z1 H1) (keep : ∀ a o, H1 a = some o → isTC o → Mc a = some o) (b2 : BaseT T2 Mc Z2 H2 w2) : TbOk T P Z2 H2 :=
  ⟨tb.m, b2.tb.z, tabs_keep tb.t fun a o e tc => b2.m _ _ (keep a o e tc)⟩
theorem spV_len {c : VC} {n : Nat} {m : List Ent → R Ent} {vs : List V} {H : Hp} {Q : VK} {E : XK} (h : spV c n m vs H Q E) : vs.length = n := h.1
/-- what becomes of the parameters -/
def finP : List Bool → List Ent → List Ent
  | true :: bs, e :: ρ => e :: finP bs ρ
  | false :: bs, _ :: ρ => .no :: finP bs ρ
  | _, _ => []
def mDef (bs : List Bool) (k : Nat) (mb : List Ent → O) : List Ent → R Ent := fun ρ => if ρ.length = bs.length then match mb (ρ ++ List.replicate k .no) with
  | .nx ρ' => .ok (.own .non) (finP bs ρ')
  | .rt e ρ' => .ok e (finP bs ρ')
  | .err C d ρ' => .err C d (finP bs ρ')
  | _ => .fail else .fail
theorem mDef_len {bs : List Bool} {k : Nat} {mb : List Ent → O} : ∀ ρ, ρ.length ≠ bs.length → mDef bs k mb ρ = .fail := fun ρ h => if_neg h
section
variable {ca : Ks} {M P Z Z' H H' : Hp} {w fp : List Addr} {σ : St} {ρ : List Ent}
theorem Slots.append {σ' : St} {ρ' : List Ent} {w' : List Addr} : ∀ {σ : St} {ρ : List Ent} {w : List Addr}, Slots ca H M Z σ ρ w → Slots ca H M Z σ' ρ' w' → Slots ca H M Z (σ ++ σ') (ρ ++ ρ') (w ++ w')
  | _, _, _, .nil, b => b
  | _, _, _, .cons a s, b => by
    have q := Slots.cons a (Slots.append s b)
    simpa [List.append_assoc] using q
theorem Slots.nos : ∀ n : Nat, Slots ca H M Z (List.replicate n none) (List.replicate n .no) []
  | 0 => .nil
  | n + 1 => by
    have q := Slots.cons (x := none) (.no (ca := ca) (H := H) (M := M) (Z := Z)) (Slots.nos n)
    simpa [List.replicate_succ] using q
theorem Slots.fin {ca : Ks} {M Z H : Hp} : ∀ {bs : List Bool} {vs : List V} {σ : St} {ρ : List Ent} {w : List Addr}, Slots ca H M Z σ ρ w → bs.length = vs.length → vs.length ≤ σ.length → (∀ i : Nat, bs[i]? = some true → σ[i]? = (vs[i]?).map some) →
    ∃ w', (∀ x, cnt x w' ≤ cnt x w) ∧ Slots ca H M Z (vs.map some) (finP bs ρ) w'
  | [], [], _, _, _, s, _, _, _ => ⟨[], fun _ => by simp [cnt], by cases s <;> exact .nil⟩
  | [], _ :: _, _, _, _, _, e, _, _ => nomatch e
  | _ :: _, [], _, _, _, _, e, _, _ => nomatch e
  | b :: bs, v :: vs, _, _, _, .nil, _, l, _ => by simp at l
  | b :: bs, v :: vs, _, _, _, .cons (x := x) (e := en) (f := f) a s, e, l, h => by
    obtain ⟨w', hc, s'⟩ := Slots.fin (bs := bs) (vs := vs) s (by simpa using e) (by simpa using l) (fun i q => by simpa using h (i + 1) (by simpa using q))
    cases b with
    | true =>
      have q := h 0 rfl
      simp at q
      subst q
      exact ⟨f ++ w', fun y => by have := hc y; simp only [cnt_app]; omega, .cons a s'⟩
    | false =>
      refine ⟨w', fun y => by have := hc y; simp only [cnt_app]; omega, ?_⟩
      exact .cons (f := []) .no s'
end
def bsOk (bs : List Bool) (pin : List Nat) : Bool := (List.range bs.length).all fun i => !(bs.getD i false) || pin.contains i
theorem bsOk_at {bs : List Bool} {pin : List Nat} (h : bsOk bs pin = true) : ∀ i : Nat, bs[i]? = some true → i ∈ pin := fun i q => by
  have hi := (List.getElem?_eq_some_iff.mp q).1
  have := List.all_eq_true.mp h i (List.mem_range.mpr hi)
  rw [List.getD_eq_getElem?_getD, q] at this
  simpa using this
/-- a def's body keeps its promise -/
theorem body_ok {c : VC} {N : List Str} {pin : List Nat} {bs : List Bool} {k : Nat} {vs : List V} {E : XK} {t : TS} {mb : List Ent → O} {H : Hp} {Q : VK} (S : SS ⟨c.base, pin, L2.start N vs⟩ (fun cls d _ H => E cls d H) t mb)
    (hp' : bsOk bs pin = true) (hN : N.length = bs.length + k) (h : spV c bs.length (mDef bs k mb) vs H Q E) : t { nx := fun _ H' => Q .non H', rt := Q } (L2.start N vs) H := by
  have hp := bsOk_at hp'
  obtain ⟨hl, Z, w, ρ, b, s, f⟩ := h
  have est : L2.start N vs = vs.map some ++ List.replicate k none := by
    unfold L2.start
    congr 2
    omega
  have s0 : Slots c.base.ca H (out w H) Z (L2.start N vs) (ρ ++ List.replicate k .no) w := by
    rw [est]
    have q := s.append (Slots.nos k)
    simpa using q
  have hv : ∀ {σ' : St}, Pin pin (L2.start N vs) σ' → ∀ i : Nat, bs[i]? = some true → σ'[i]? = (vs[i]?).map some := fun {σ'} pn i q => by
    rw [pn.at_ i (hp i q), est]
    have hi : i < vs.length := by
      have := (List.getElem?_eq_some_iff.mp q).1
      omega
    rw [List.getElem?_append_left (by simpa using hi), List.getElem?_map]
  refine S.go (out w H) (out w H) Z H (L2.start N vs) _ w _ (Ext.refl _) b s0 ⟨fun i _ => rfl, rfl⟩ ?_
  unfold mDef at f
  split at f
  rotate_left
  · exact f.elim
  have fin : ∀ {σ' : St} {H' Z' : Hp} {ρ' : List Ent} {w' : List Addr}, Slots c.base.ca H' (out w H) Z' σ' ρ' w' → Pin pin (L2.start N vs) σ' → ∃ w2, (∀ x, cnt x w2 ≤ cnt x w') ∧ Slots c.base.ca H' (out w H) Z' (vs.map some) (finP bs ρ') w2 :=
    fun s pn => s.fin hl.symm (by rw [pn.len, est]; simp) (hv pn)
  cases e : mb (ρ ++ List.replicate k .no) with
  | fail => rw [e] at f; exact f
  | bk ρ' => rw [e] at f; exact f.elim
  | ct ρ' => rw [e] at f; exact f.elim
  | nx ρ' =>
    rw [e] at f
    intro σ' H' Z' w' z n b' s' pn
    obtain ⟨w2, hc, s2⟩ := fin s' pn
    exact f .non H' Z' [] w2 z n (b'.cnt hc) (.own .non) s2
  | rt en ρ' =>
    rw [e] at f
    intro v σ' H' Z' fp w' z n b' ev s' pn
    obtain ⟨w2, hc, s2⟩ := fin s' pn
    exact f v H' Z' fp w2 z n (b'.cnt fun x => by have := hc x; simp only [cnt_app]; omega) ev s2
  | err C d ρ' =>
    rw [e] at f
    intro x vd σ' H' Z' w' z n b' hx o s' pn
    obtain ⟨w2, hc, s2⟩ := fin s' pn
    exact f x vd H' Z' w2 z n (b'.cnt hc) hx o s2
/-! ### calls that only read -/
/-- an argument as it is handed in, to be read -/
def Ent.arg : Ent → Ent
  | .own t => if t.isF = true then .own t else .vw t
  | .vw t => if t.isF = true then .own t else .vw t
  | .no => .no
  | .exc _ _ => .no
theorem EntV.re {ca ca' : Ks} (e : ca.cl = ca'.cl) {H Z : Hp} {v : V} {en : Ent} {fp : List Addr} (h : EntV ca H Z v en fp) : EntV ca' H Z v en fp := by
  cases h with
  | own o => exact .own (o.re e)
  | vw o => exact .vw (o.re e)
theorem EntVs.re {ca ca' : Ks} (e : ca.cl = ca'.cl) {H Z : Hp} : ∀ {vs : List V} {es : List Ent} {fp : List Addr}, EntVs ca H Z vs es fp → EntVs ca' H Z vs es fp
  | _, _, _, .nil => .nil
  | _, _, _, .cons h A => .cons (h.re e) (EntVs.re e A)
theorem Ow.toB {c : VC} {H Z : Hp} {v : V} {t : T} {fp : List Addr} (h : Ow c.ca H Z v t fp) : Ow c.base.ca H Z v t fp := Ow.re (ca := c.ca) (ca' := c.base.ca) rfl h
theorem Ow.ofB {c : VC} {H Z : Hp} {v : V} {t : T} {fp : List Addr} (h : Ow c.base.ca H Z v t fp) : Ow c.ca H Z v t fp := Ow.re (ca := c.base.ca) (ca' := c.ca) rfl h
theorem EntV.ofB {c : VC} {H Z : Hp} {v : V} {t : Ent} {fp : List Addr} (h : EntV c.base.ca H Z v t fp) : EntV c.ca H Z v t fp := EntV.re (ca := c.base.ca) (ca' := c.ca) rfl h
theorem EntVs.toB {c : VC} {H Z : Hp} {v : List V} {t : List Ent} {fp : List Addr} (h : EntVs c.ca H Z v t fp) : EntVs c.base.ca H Z v t fp := EntVs.re (ca := c.ca) (ca' := c.base.ca) rfl h
theorem EntV.arg {ca : Ks} {H M Z : Hp} {v : V} {e : Ent} {fp : List Addr} (x : Ext H M) (h : EntV ca H Z v e fp) : Slot ca H M Z (some v) e.arg [] := by
  cases h with
  | @own t f h =>
    unfold Ent.arg
    dsimp only
    split
    · rename_i q
      have e := h.nof q
      subst e
      exact .own h
    · exact .vw (h.mono (Ext.refl _) fun a _ o y => x a o y)
  | @vw t g h =>
    unfold Ent.arg
    dsimp only
    split
    · rename_i q
      have e := h.nof q
      subst e
      exact .own h
    · exact .vw (h.mono (Ext.refl _) fun a _ o y => x a o y)
theorem EntVs.args {ca : Ks} {H M Z : Hp} (x : Ext H M) : ∀ {vs : List V} {es : List Ent} {fp : List Addr}, EntVs ca H Z vs es fp → Slots ca H M Z (vs.map some) (es.map Ent.arg) []
  | _, _, _, .nil => .nil
  | _, _, _, .cons h A => .cons (f := []) (g := []) (h.arg x) (EntVs.args x A)
theorem out_nil {H : Hp} : @out Tb.none [] H = H := by
  funext a
  unfold out
  rw [if_neg (fun q => q.elim (fun q => nomatch q) fun q => by cases q)]
def mCallR (m : List Ent → R Ent) (ms : List Ent → R (List Ent)) : List Ent → R Ent := fun ρ => (ms ρ).bind fun es ρ1 => match m (es.map Ent.arg) with
  | .ok e _ => .ok e ρ1
  | .err C d _ => .err C d ρ1
  | .fail => .fail
section
variable {c : VC} {W : WX} {r : Bool} {ta : TA} {to : TE} {ms : List Ent → R (List Ent)} {m : List Ent → R Ent} {mo : List Ent → R Ent} {n : Nat}
theorem EntVs.length {ca : Ks} {H Z : Hp} : ∀ {vs : List V} {es : List Ent} {fp : List Addr}, EntVs ca H Z vs es fp → vs.length = es.length
  | _, _, _, .nil => rfl
  | _, _, _, .cons _ A => congrArg (· + 1) (EntVs.length A)
/-- the callee's promise from what is at hand -/
theorem callR_core {M P Z H H1 Z1 : Hp} {σ : St} {w w1 fp : List Addr} {ρ1 : List Ent} {vs : List V} {es : List Ent} {Q : VK} (hn : vs.length = n) (mp : Ext M P) (z1 : Ext Z Z1) (n1 : ZN P Z Z1) (b1 : Base P Z1 H1 (fp ++ w1)) (ev : EntVs c.ca H1 Z1 vs es fp) (s1 : Slots c.ca H1 M Z1 σ ρ1 w1) (ro : r = true → Ext H H1 ∧ w1 = w)
    (hf : FinE c W r M P Z H σ w Q (match m (es.map Ent.arg) with
      | .ok e _ => .ok e ρ1
      | .err C d _ => .err C d ρ1
      | .fail => .fail)) : spV0 c n m vs H1 Q (WE W σ) := by
  have b0 : BaseT [] H1 Z1 H1 [] := ⟨b1.z, (fun _ q => nomatch q), Ext.refl _, (fun _ q => nomatch q), List.nodup_nil, (fun _ q => nomatch q), TbOk.nil b1.tb.z⟩
  refine ⟨hn, Z1, [], es.map Ent.arg, by rw [out_nil]; exact b0, by rw [out_nil]; exact ev.toB.args (Ext.refl _), ?_⟩
  rw [out_nil]
  have bw : Base P Z1 H1 w1 := b1.drop
  have nn : ∀ {Z2 : Hp}, ZN H1 Z1 Z2 → ZN P Z Z2 := fun q => n1.trans (q.of b1.m)
  have kw : ∀ {Z2 H2 : Hp} {w2 : List Addr}, BaseT [] H1 Z2 H2 w2 → Ext Z1 Z2 → ZN H1 Z1 Z2 → Base P Z2 H2 (w2 ++ w1) := fun {Z2 H2 w2} b2 z2 n2 => by
    have dj : ∀ a ∈ w2, a ∉ w1 := fun a h q => by
      cases y : H1 a with
      | none => exact (bw.hw a q).nn y
      | some o => have := b2.mw a h; rw [y] at this; cases this
    refine ⟨b2.z, fun a h => ?_, fun a o h => b2.m a o (b1.m a o h), fun a h => ?_, List.nodup_append.mpr ⟨b2.nd, bw.nd, fun a h b q e => dj a h (e ▸ q)⟩, fun a h => ?_, bw.tb.call0 (fun _ _ e _ => e) b2⟩
    · rcases List.mem_append.mp h with h | h
      · exact b2.zw a h
      · cases y : Z2 a with
        | none => rfl
        | some o =>
          rcases n2 a (by rw [y]; exact fun z => nomatch z) with q | q
          · exact absurd (bw.zw a h) q
          · obtain ⟨u, e1, e2⟩ := bw.hw a h
            exact (q.op e1 e2).elim
    · rcases List.mem_append.mp h with h | h
      · cases y : P a with
        | none => rfl
        | some o => have := b2.mw a h; rw [b1.m a o y] at this; cases this
      · exact bw.mw a h
    · rcases List.mem_append.mp h with h | h
      · exact b2.hw a h
      · exact (bw.hw a h).keep (b2.m a)
  cases e : m (es.map Ent.arg) with
  | fail => rw [e] at hf; exact hf
  | err C d ρ2 =>
    rw [e] at hf
    intro x vd H2 Z2 w2 z2 n2 b2 hx o s2
    exact hf x vd H2 Z2 w1 (z1.trans z2) (nn n2) ((kw b2 z2 n2).sub (List.sublist_append_right _ _)) hx o.ofB (s1.mono z2 fun a _ o y => b2.m a o y)
  | ok en ρ2 =>
    rw [e] at hf
    intro v H2 Z2 f2 w2 z2 n2 b2 ev2 s2
    refine hf v H2 Z2 f2 w1 (z1.trans z2) (nn n2) ((kw b2 z2 n2).cnt fun x => by simp only [cnt_app]; omega) ev2.ofB (s1.mono z2 fun a _ o y => b2.m a o y) fun q => ⟨(ro q).1.trans b2.m, (ro q).2⟩
theorem SV.callR (hm : ∀ ρ, ρ.length ≠ n → m ρ = .fail) (h : SA c W r ta ms) : SV c W r (tCallS (spV0 c n m) (WE W) ta) (mCallR m ms) := by
  refine ⟨fun M P Z H σ ρ w Q mp b s hf => ?_⟩
  unfold tCallS
  refine h.go M P Z H σ ρ w _ mp b s ?_
  unfold mCallR at hf
  cases e : ms ρ with
  | fail => rw [e] at hf; exact hf
  | err C d ρ' => rw [e] at hf; exact hf
  | ok es ρ1 =>
    rw [e] at hf
    dsimp only [R.bind] at hf
    intro vs H1 Z1 fp w1 z1 n1 b1 ev s1 ro
    by_cases hl : es.length = n
    · exact callR_core (ev.length.trans hl) mp z1 n1 b1 ev s1 ro hf
    · rw [hm _ (by simpa using hl)] at hf
      exact hf.elim
/-- o.m(..), which only reads -/
def chkI (C m : Str) : T → Bool
  | .ins _ C' fs => decide (C' = C) && (getK fs m).isNone
  | _ => false
def mMethR (C mn : Str) (ra : Bool) (m : List Ent → R Ent) (mo : List Ent → R Ent) (ms : List Ent → R (List Ent)) : List Ent → R Ent := fun ρ => (mo ρ).bind fun e ρ0 => if (chkI C mn e.t && (ra || e.held)) = true then (ms ρ0).bind fun es ρ1 => match m ((e :: es).map Ent.arg) with
  | .ok e _ => .ok e ρ1
  | .err C d _ => .err C d ρ1
  | .fail => .fail else .fail
end
end Rm
/-! Rm, part VA: calls that change what is handed in. -/
namespace Rm
open PySem PySem.Spec L2
open PyProof.Rows hiding St
variable [Tb]
/-- an argument: what slot i owns, changed; the same, read; a value -/
inductive AK where
  | io (i : Nat) | vn (i : Nat) | lw (i : Nat) | val
def AK.ix : AK → Option Nat
  | .io i => some i
  | .vn i => some i
  | .lw i => some i
  | .val => none
/-- the arguments' values -/
inductive ArgVs (ca : Ks) (H Z : Hp) (σ : St) : List AK → List V → List Ent → List Addr → Prop
  | nil : ArgVs ca H Z σ [] [] [] []
  | io {i : Nat} {v : V} {ks : List AK} {vs : List V} {es : List Ent} {f : List Addr} : σ[i]? = some (some v) → ArgVs ca H Z σ ks vs es f → ArgVs ca H Z σ (.io i :: ks) (v :: vs) (.no :: es) f
  | vn {i : Nat} {v : V} {ks : List AK} {vs : List V} {es : List Ent} {f : List Addr} : σ[i]? = some (some v) → ArgVs ca H Z σ ks vs es f → ArgVs ca H Z σ (.vn i :: ks) (v :: vs) (.no :: es) f
  | lw {i : Nat} {v : V} {ks : List AK} {vs : List V} {es : List Ent} {f : List Addr} : σ[i]? = some (some v) → ArgVs ca H Z σ ks vs es f → ArgVs ca H Z σ (.lw i :: ks) (v :: vs) (.no :: es) f
  | val {v : V} {e : Ent} {f1 : List Addr} {ks : List AK} {vs : List V} {es : List Ent} {f : List Addr} : EntV ca H Z v e f1 → ArgVs ca H Z σ ks vs es f → ArgVs ca H Z σ (.val :: ks) (v :: vs) (e :: es) (f1 ++ f)
theorem ArgVs.length {ca : Ks} {H Z : Hp} {σ : St} {ks : List AK} {vs : List V} {es : List Ent} {f : List Addr} (h : ArgVs ca H Z σ ks vs es f) : vs.length = es.length := by
  induction h with
  | nil => rfl
  | io _ _ ih => simp [ih]
  | vn _ _ ih => simp [ih]
  | lw _ _ ih => simp [ih]
  | val _ _ ih => simp [ih]
def FinK (c : VC) (W : WX) (M P Z : Hp) (σ : St) (ks : List AK) (Q : List V → Hp → Prop) : R (List Ent) → Prop
  | .ok es ρ' => ∀ vs H' Z' fp w', Ext Z Z' → ZN P Z Z' → Base P Z' H' (fp ++ w') → ArgVs c.ca H' Z' σ ks vs es fp → Slots c.ca H' M Z' σ ρ' w' → Q vs H'
  | .err C d ρ' => ∀ x vd H' Z' w', Ext Z Z' → ZN P Z Z' → Base P Z' H' w' → Z' x = some (.xd [(c.ef C, vd)]) → Ow c.ca H' Z' vd d [] → Slots c.ca H' M Z' σ ρ' w' → W (.ref (c.ca.cl C)) (some x) σ H'
  | .fail => False
structure SK (c : VC) (W : WX) (ks : List AK) (t : TA) (m : List Ent → R (List Ent)) : Prop where
  go : ∀ (M P Z H : Hp) (σ : St) (ρ : List Ent) (w : List Addr) (Q : List V → Hp → Prop), Ext M P → Base P Z H w → Slots c.ca H M Z σ ρ w → FinK c W M P Z σ ks Q (m ρ) → t σ H Q
def mKNo (i : Nat) (ms : List Ent → R (List Ent)) : List Ent → R (List Ent) := fun ρ => match ρ[i]? with
  | some (.own _) => (ms ρ).bind fun es ρ1 => .ok (.no :: es) ρ1
  | _ => .fail
section
variable {c : VC} {W : WX} {r : Bool} {t : TE} {ta : TA} {m : List Ent → R Ent} {ms : List Ent → R (List Ent)} {ks : List AK}
theorem SK.nil : SK c W [] tNil mNil := ⟨fun M P Z H σ ρ w Q mp b s h => h [] H Z [] w (Ext.refl _) ZN.refl b .nil s⟩
theorem own_at {ca : Ks} {H M Z : Hp} {σ : St} {ρ : List Ent} {w : List Addr} {i : Nat} {u : T} (s : Slots ca H M Z σ ρ w) (h : ρ[i]? = some (.own u)) : ∃ v, σ[i]? = some (some v) := by
  obtain ⟨x, l, f, r, e1, e2, sl, kk⟩ := s.split h
  cases sl with
  | own o => exact ⟨_, e1⟩
theorem SK.io (i : Nat) (h2 : SK c W ks ta ms) : SK c W (.io i :: ks) (tCons (tV i) ta) (mKNo i ms) := by
  refine ⟨fun M P Z H σ ρ w Q mp b s hf => ?_⟩
  unfold mKNo at hf
  split at hf
  rotate_left
  · exact hf.elim
  rename_i u eu
  obtain ⟨v, ev⟩ := own_at s eu
  unfold tCons tV
  rw [ev]
  refine h2.go M P Z H σ ρ w _ mp b s ?_
  cases e2 : ms ρ with
  | fail => rw [e2] at hf; exact hf
  | err C d ρ2 => rw [e2] at hf; exact hf
  | ok es ρ2 =>
    rw [e2] at hf
    exact fun vs H' Z' fp w' z n b' a s' => hf (v :: vs) H' Z' fp w' z n b' (.io ev a) s'
theorem SK.vn (i : Nat) (h2 : SK c W ks ta ms) : SK c W (.vn i :: ks) (tCons (tV i) ta) (mKNo i ms) := by
  refine ⟨fun M P Z H σ ρ w Q mp b s hf => ?_⟩
  unfold mKNo at hf
  split at hf
  rotate_left
  · exact hf.elim
  rename_i u eu
  obtain ⟨v, ev⟩ := own_at s eu
  unfold tCons tV
  rw [ev]
  refine h2.go M P Z H σ ρ w _ mp b s ?_
  cases e2 : ms ρ with
  | fail => rw [e2] at hf; exact hf
  | err C d ρ2 => rw [e2] at hf; exact hf
  | ok es ρ2 =>
    rw [e2] at hf
    exact fun vs H' Z' fp w' z n b' a s' => hf (v :: vs) H' Z' fp w' z n b' (.vn ev a) s'
def mKLw (i : Nat) (ms : List Ent → R (List Ent)) : List Ent → R (List Ent) := fun ρ => match ρ[i]? with
  | some (.vw _) => (ms ρ).bind fun es ρ1 => .ok (.no :: es) ρ1
  | _ => .fail
theorem vw_at {ca : Ks} {H M Z : Hp} {σ : St} {ρ : List Ent} {w : List Addr} {i : Nat} {u : T} (s : Slots ca H M Z σ ρ w) (h : ρ[i]? = some (.vw u)) : ∃ v, σ[i]? = some (some v) := by
  obtain ⟨x, l, f, r, e1, e2, sl, kk⟩ := s.split h
  cases sl with
  | vw o => exact ⟨_, e1⟩
theorem SK.lw (i : Nat) (h2 : SK c W ks ta ms) : SK c W (.lw i :: ks) (tCons (tV i) ta) (mKLw i ms) := by
  refine ⟨fun M P Z H σ ρ w Q mp b s hf => ?_⟩
  unfold mKLw at hf
  split at hf
  rotate_left
  · exact hf.elim
  rename_i u eu
  obtain ⟨v, ev⟩ := vw_at s eu
  unfold tCons tV
  rw [ev]
  refine h2.go M P Z H σ ρ w _ mp b s ?_
  cases e2 : ms ρ with
  | fail => rw [e2] at hf; exact hf
  | err C d ρ2 => rw [e2] at hf; exact hf
  | ok es ρ2 =>
    rw [e2] at hf
    exact fun vs H' Z' fp w' z n b' a s' => hf (v :: vs) H' Z' fp w' z n b' (.lw ev a) s'
theorem ArgVs.join {ca : Ks} {H Z : Hp} {σ : St} {ks : List AK} {v : V} {e : Ent} {f1 : List Addr} {vs : List V} {es : List Ent} {f : List Addr} (a : EntV ca H Z v e f1) (b : ArgVs ca H Z σ ks vs es f) : ArgVs ca H Z σ (.val :: ks) (v :: vs) (e :: es) (f1 ++ f) := .val a b
theorem SK.val (h1 : SV c W r t m) (h2 : SK c W ks ta ms) : SK c W (.val :: ks) (tCons t ta) (mCons false m ms) := by
  refine ⟨fun M P Z H σ ρ w Q mp b s h => ?_⟩
  unfold tCons
  refine h1.go M P Z H σ ρ w _ mp b s ?_
  unfold mCons at h
  cases e1 : m ρ with
  | fail => rw [e1] at h; exact h
  | err C d ρ1 => rw [e1] at h; exact h
  | ok e ρ1 =>
    rw [e1] at h
    dsimp only [R.bind] at h
    split at h
    rotate_left
    · exact h.elim
    rename_i hh
    rw [Bool.false_or] at hh
    intro v H1 Z1 fp w1 z1 n1 b1 ev s1 ro1
    refine h2.go M (Rm.out w1 H1) Z1 H1 σ ρ1 w1 _ (mp.trans b1.le) b1.out s1 ?_
    cases e2 : ms ρ1 with
    | fail => rw [e2] at h; exact h
    | err C d ρ2 =>
      rw [e2] at h
      intro x vd H2 Z2 w2 z2 n2 b2 hx2 ov s2
      exact h x vd H2 Z2 w2 (z1.trans z2) (n1.trans (n2.of b1.le)) (b2.less b1.le) hx2 ov s2
    | ok es ρ2 =>
      rw [e2] at h
      intro vs H2 Z2 fp2 w2 z2 n2 b2 evs s2
      have kf : ∀ a ∈ fp, ∀ o, H1 a = some o → H2 a = some o := fun a q o y => b2.m a o (b1.keep a q o y)
      refine h (v :: vs) H2 Z2 (fp ++ fp2) w2 (z1.trans z2) (n1.trans (n2.of b1.le)) (Base.join b1 b2 n2) (.val (ev.mono z2 kf fun ⟨t, q, y⟩ => ?_) evs) s2
      rw [q] at hh
      simp only [Ent.held] at hh
      rw [y] at hh; cases hh
/-- what is handed in, what stays -/
def prep : List AK → List Ent → List Ent → Option (List Ent × List Ent)
  | [], [], ρ => some ([], ρ)
  | .io i :: ks, _ :: es, ρ => (match ρ[i]? with
    | some (.own t) => (prep ks es (ρ.set i .no)).map fun p => (.own t :: p.1, p.2)
    | _ => none)
  | .vn i :: ks, _ :: es, ρ => (match ρ[i]? with
    | some (.own t) => (prep ks es (ρ.set i .no)).map fun p => (.vw t :: p.1, p.2)
    | _ => none)
  | .lw i :: ks, _ :: es, ρ => (match ρ[i]? with
    | some (.vw t) => (prep ks es ρ).map fun p => (.vw t :: p.1, p.2)
    | _ => none)
  | .val :: ks, e :: es, ρ => (match e with
    | .own t => (prep ks es ρ).map fun p => (.own t :: p.1, p.2)
    | .vw t => if t.isF = true then (prep ks es ρ).map fun p => (.own t :: p.1, p.2) else none
    | .no => none
    | .exc _ _ => none)
  | _, _, _ => none
/-- what comes back -/
def back : List AK → List Ent → List Ent → List Ent → List Ent
  | .io i :: ks, _ :: as, e :: fin, ρ => back ks as fin (match e with
    | .own t => ρ.set i (.own t)
    | _ => ρ)
  | .vn i :: ks, a :: as, _ :: fin, ρ => back ks as fin (match a with
    | .vw t => ρ.set i (.own t)
    | _ => ρ)
  | .lw _ :: ks, _ :: as, _ :: fin, ρ => back ks as fin ρ
  | .val :: ks, _ :: as, _ :: fin, ρ => back ks as fin ρ
  | _, _, _, ρ => ρ
/-- the frozen, read things apart -/
inductive Held (ca : Ks) (H Z : Hp) : List AK → List V → List Ent → List Addr → Prop
  | nil : Held ca H Z [] [] [] []
  | vn {i : Nat} {v : V} {t : T} {g : List Addr} {ks : List AK} {vs : List V} {as : List Ent} {f : List Addr} : Ow ca H Z v t g → Held ca H Z ks vs as f → Held ca H Z (.vn i :: ks) (v :: vs) (.vw t :: as) (g ++ f)
  | io {i : Nat} {v : V} {e : Ent} {ks : List AK} {vs : List V} {as : List Ent} {f : List Addr} : Held ca H Z ks vs as f → Held ca H Z (.io i :: ks) (v :: vs) (e :: as) f
  | val {v : V} {e : Ent} {ks : List AK} {vs : List V} {as : List Ent} {f : List Addr} : Held ca H Z ks vs as f → Held ca H Z (.val :: ks) (v :: vs) (e :: as) f
  | lw {i : Nat} {v : V} {e : Ent} {ks : List AK} {vs : List V} {as : List Ent} {f : List Addr} : Held ca H Z ks vs as f → Held ca H Z (.lw i :: ks) (v :: vs) (e :: as) f
theorem Held.mono {ca : Ks} {H H' Z Z' : Hp} (z : Ext Z Z') : ∀ {ks : List AK} {vs : List V} {as : List Ent} {f : List Addr}, (∀ a ∈ f, ∀ o, H a = some o → H' a = some o) → Held ca H Z ks vs as f → Held ca H' Z' ks vs as f
  | _, _, _, _, _, .nil => .nil
  | _, _, _, _, h, .vn o A => .vn (o.mono z fun a q => h a (List.mem_append_left _ q)) (Held.mono z (fun a q => h a (List.mem_append_right _ q)) A)
  | _, _, _, _, h, .io A => .io (Held.mono z h A)
  | _, _, _, _, h, .val A => .val (Held.mono z h A)
  | _, _, _, _, h, .lw A => .lw (Held.mono z h A)
/-- taken out -/
theorem prep_ok {ca : Ks} {M Z H : Hp} {σ : St} : ∀ {ks : List AK} {vs : List V} {es : List Ent} {fp : List Addr} {ρ : List Ent} {w : List Addr} {as ρr : List Ent}, ArgVs ca H Z σ ks vs es fp → Slots ca H M Z σ ρ w → prep ks es ρ = some (as, ρr) →
    ∃ wc wh wr, (∀ x, cnt x wc + (cnt x wh + cnt x wr) ≤ cnt x fp + cnt x w) ∧ Slots ca H M Z σ ρr wr ∧ Held ca H Z ks vs as wh ∧ ∀ {ca' : Ks} {Mc : Hp}, ca.cl = ca'.cl → (∀ a ∈ wh, ∀ o, H a = some o → Mc a = some o) → Ext M Mc → Slots ca' H Mc Z (vs.map some) as wc
  | [], _, _, _, ρ, w, _, _, .nil, s, h => by
    cases h
    exact ⟨[], [], w, fun x => by simp [cnt], s, .nil, fun _ _ _ => .nil⟩
  | .io i :: ks, _, _, _, ρ, w, as, ρr, .io (v := v) ev A, s, h => by
    unfold prep at h
    split at h
    rotate_left
    · cases h
    rename_i t et
    cases ep : prep ks _ (ρ.set i .no) with
    | none => rw [ep] at h; cases h
    | some p =>
      rw [ep] at h
      cases h
      obtain ⟨x, l, f, r, e1, e2, sl, kk⟩ := s.split et
      rw [ev] at e1
      cases e1
      cases sl with
      | own o =>
        have s2 := kk (x' := some v) (f' := []) (fun _ _ _ q => q) (Ext.refl _) .no
        rw [set_same ev] at s2
        obtain ⟨wc, wh, wr, hc, sr, hh, kc⟩ := prep_ok A s2 ep
        refine ⟨f ++ wc, wh, wr, fun y => ?_, sr, .io hh, fun ec q x => .cons (.own (o.re ec)) (kc ec q x)⟩
        have := hc y
        rw [e2]
        simp only [cnt_app, cnt_nil] at this ⊢
        omega
  | .vn i :: ks, _, _, _, ρ, w, as, ρr, .vn (v := v) ev A, s, h => by
    unfold prep at h
    split at h
    rotate_left
    · cases h
    rename_i t et
    cases ep : prep ks _ (ρ.set i .no) with
    | none => rw [ep] at h; cases h
    | some p =>
      rw [ep] at h
      cases h
      obtain ⟨x, l, f, r, e1, e2, sl, kk⟩ := s.split et
      rw [ev] at e1
      cases e1
      cases sl with
      | own o =>
        have s2 := kk (x' := some v) (f' := []) (fun _ _ _ q => q) (Ext.refl _) .no
        rw [set_same ev] at s2
        obtain ⟨wc, wh, wr, hc, sr, hh, kc⟩ := prep_ok A s2 ep
        refine ⟨wc, f ++ wh, wr, fun y => ?_, sr, .vn o hh, fun ec q x => ?_⟩
        · have := hc y
          rw [e2]
          simp only [cnt_app, cnt_nil] at this ⊢
          omega
        · exact .cons (f := []) (.vw ((o.re ec).mono (Ext.refl _) fun a y => q a (List.mem_append_left _ y))) (kc ec (fun a y => q a (List.mem_append_right _ y)) x)
  | .lw i :: ks, _, _, _, ρ, w, as, ρr, .lw (v := v) (es := es) ev A, s, h => by
    unfold prep at h
    split at h
    rotate_left
    · cases h
    rename_i t et
    cases ep : prep ks es ρ with
    | none => rw [ep] at h; cases h
    | some p =>
      rw [ep] at h
      cases h
      obtain ⟨x, l, f, r, e1, e2, sl, _⟩ := s.split et
      rw [ev] at e1
      cases e1
      cases sl with
      | vw o =>
        obtain ⟨wc, wh, wr, hc, sr, hh, kc⟩ := prep_ok A s ep
        exact ⟨wc, wh, wr, hc, sr, .lw hh, fun ec q x => .cons (f := []) (.vw ((o.re ec).mono (Ext.refl _) fun a _ o y => x a o y)) (kc ec q x)⟩
  | .val :: ks, _, _, _, ρ, w, as, ρr, .val (v := v) (e := e) (f1 := f1) (es := es) ev A, s, h => by
    have key : ∃ t, (∃ f2, Ow ca H Z v t f2 ∧ ∀ x, cnt x f2 ≤ cnt x f1) ∧ (prep ks es ρ).map (fun p => (Ent.own t :: p.1, p.2)) = some (as, ρr) := by
      unfold prep at h
      cases ev with
      | own o => exact ⟨_, ⟨_, o, fun _ => Nat.le_refl _⟩, h⟩
      | @vw t g o =>
        dsimp only at h
        split at h
        · rename_i q
          obtain rfl := o.nof q
          exact ⟨_, ⟨_, o, fun _ => Nat.le_refl _⟩, h⟩
        · cases h
    obtain ⟨t, ⟨f2, o, h2⟩, h⟩ := key
    cases ep : prep ks es ρ with
    | none => rw [ep] at h; cases h
    | some p =>
      rw [ep] at h
      cases h
      obtain ⟨wc, wh, wr, hc, sr, hh, kc⟩ := prep_ok A s ep
      refine ⟨f2 ++ wc, wh, wr, fun y => ?_, sr, .val hh, fun ec q x => .cons (.own (o.re ec)) (kc ec q x)⟩
      have := hc y
      have := h2 y
      simp only [cnt_app] at *
      omega
/-- put back -/
theorem back_ok {ca ca' : Ks} (ec : ca'.cl = ca.cl) {M Z H Mc : Hp} {σ : St} : ∀ {ks : List AK} {vs : List V} {as : List Ent} {fin : List Ent} {ρ : List Ent} {wf wh w : List Addr}, (∀ j : Nat, ∀ i, (ks[j]?).bind AK.ix = some i → σ[i]? = (vs[j]?).map some) → Held ca H Z ks vs as wh → Slots ca' H Mc Z (vs.map some) fin wf → Slots ca H M Z σ ρ w →
    ∃ w', (∀ x, cnt x w' ≤ cnt x wf + (cnt x wh + cnt x w)) ∧ Slots ca H M Z σ (back ks as fin ρ) w'
  | [], _, _, _, ρ, wf, wh, w, _, hh, _, s => ⟨w, fun x => by omega, by cases hh; exact s⟩
  | .io i :: ks, v :: vs, a :: as, e :: fin, ρ, _, wh, w, hv, .io hh, .cons (f := f) (g := g) sl sf, s => by
    have hv' : ∀ j : Nat, ∀ i, (ks[j]?).bind AK.ix = some i → σ[i]? = (vs[j]?).map some := fun j i q => by simpa using hv (j + 1) i (by simpa using q)
    have e0 : σ[i]? = some (some v) := by simpa using hv 0 i rfl
    unfold back
    cases sl with
    | @own _ t _ o =>
      dsimp only
      cases er : ρ[i]? with
      | none =>
        have := s.non0 er
        rw [e0] at this; cases this
      | some e' =>
        obtain ⟨x, l, f', r, e1, e2, sl', kk⟩ := s.split er
        have s2 := kk (x' := some v) (fun _ _ _ q => q) (Ext.refl _) (.own (o.re ec))
        rw [set_same e0] at s2
        obtain ⟨w', hc, sb⟩ := back_ok ec hv' hh sf s2
        refine ⟨w', fun y => ?_, sb⟩
        have := hc y
        rw [e2]
        simp only [cnt_app] at this ⊢
        omega
    | exc _ _ _ =>
      obtain ⟨w', hc, sb⟩ := back_ok ec hv' hh sf s
      exact ⟨w', fun y => by have := hc y; simp only [cnt_app] at this ⊢; omega, sb⟩
    | no =>
      obtain ⟨w', hc, sb⟩ := back_ok ec hv' hh sf s
      exact ⟨w', fun y => by have := hc y; simp only [cnt_app] at this ⊢; omega, sb⟩
    | vw o =>
      obtain ⟨w', hc, sb⟩ := back_ok ec hv' hh sf s
      exact ⟨w', fun y => by have := hc y; simp only [cnt_app] at this ⊢; omega, sb⟩
  | .vn i :: ks, v :: vs, .vw t :: as, e :: fin, ρ, _, _, w, hv, .vn (g := g0) (f := f0) o hh, .cons (f := f) (g := g) sl sf, s => by
    have hv' : ∀ j : Nat, ∀ i, (ks[j]?).bind AK.ix = some i → σ[i]? = (vs[j]?).map some := fun j i q => by simpa using hv (j + 1) i (by simpa using q)
    have e0 : σ[i]? = some (some v) := by simpa using hv 0 i rfl
    unfold back
    dsimp only
    cases er : ρ[i]? with
    | none =>
      have := s.non0 er
      rw [e0] at this; cases this
    | some e' =>
      obtain ⟨x, l, f', r, e1, e2, sl', kk⟩ := s.split er
      have s2 := kk (x' := some v) (fun _ _ _ q => q) (Ext.refl _) (.own o)
      rw [set_same e0] at s2
      obtain ⟨w', hc, sb⟩ := back_ok ec hv' hh sf s2
      refine ⟨w', fun y => ?_, sb⟩
      have := hc y
      rw [e2]
      simp only [cnt_app] at this ⊢
      omega
  | .val :: ks, v :: vs, a :: as, e :: fin, ρ, _, wh, w, hv, .val hh, .cons (f := f) (g := g) sl sf, s => by
    have hv' : ∀ j : Nat, ∀ i, (ks[j]?).bind AK.ix = some i → σ[i]? = (vs[j]?).map some := fun j i q => by simpa using hv (j + 1) i (by simpa using q)
    unfold back
    obtain ⟨w', hc, sb⟩ := back_ok ec hv' hh sf s
    exact ⟨w', fun y => by have := hc y; simp only [cnt_app] at this ⊢; omega, sb⟩
  | .lw i :: ks, v :: vs, a :: as, e :: fin, ρ, _, wh, w, hv, .lw hh, .cons (f := f) (g := g) sl sf, s => by
    have hv' : ∀ j : Nat, ∀ i, (ks[j]?).bind AK.ix = some i → σ[i]? = (vs[j]?).map some := fun j i q => by simpa using hv (j + 1) i (by simpa using q)
    unfold back
    obtain ⟨w', hc, sb⟩ := back_ok ec hv' hh sf s
    exact ⟨w', fun y => by have := hc y; simp only [cnt_app] at this ⊢; omega, sb⟩
  | .io i :: ks, v :: vs, a :: as, [], _, _, _, _, _, _, s, _ => nomatch s
  | .lw i :: ks, v :: vs, a :: as, [], _, _, _, _, _, _, s, _ => nomatch s
  | .vn i :: ks, v :: vs, a :: as, [], _, _, _, _, _, _, s, _ => nomatch s
  | .val :: ks, v :: vs, a :: as, [], _, _, _, _, _, _, s, _ => nomatch s
theorem ArgVs.at {ca : Ks} {H Z : Hp} {σ : St} : ∀ {ks : List AK} {vs : List V} {es : List Ent} {f : List Addr}, ArgVs ca H Z σ ks vs es f → ∀ j : Nat, ∀ i, (ks[j]?).bind AK.ix = some i → σ[i]? = (vs[j]?).map some
  | _, _, _, _, .nil, j, i, h => by simp at h
  | _, _, _, _, .io ev A, 0, i, h => by cases h; simpa using ev
  | _, _, _, _, .vn ev A, 0, i, h => by cases h; simpa using ev
  | _, _, _, _, .lw ev A, 0, i, h => by cases h; simpa using ev
  | _, _, _, _, .val ev A, 0, i, h => by cases h
  | _, _, _, _, .io ev A, j + 1, i, h => by simpa using ArgVs.at A j i (by simpa using h)
  | _, _, _, _, .vn ev A, j + 1, i, h => by simpa using ArgVs.at A j i (by simpa using h)
  | _, _, _, _, .lw ev A, j + 1, i, h => by simpa using ArgVs.at A j i (by simpa using h)
  | _, _, _, _, .val ev A, j + 1, i, h => by simpa using ArgVs.at A j i (by simpa using h)
/-- a call by what is handed in -/
def runC (ks : List AK) (m : List Ent → R Ent) (es ρ1 : List Ent) : R Ent := match prep ks es ρ1 with
  | some (as, ρr) => (match m as with
    | .ok e fin => .ok e (back ks as fin ρr)
    | .err C d fin => .err C d (back ks as fin ρr)
    | .fail => .fail)
  | none => .fail
/-- the result is kept: it is one's own or frozen -/
def Ent.safe : R Ent → R Ent
  | .ok e ρ => (match e with
    | .own t => .ok (.own t) ρ
    | .vw t => if t.isF = true then .ok (.own t) ρ else .fail
    | _ => .fail)
  | r => r
theorem callW_core {n : Nat} {m : List Ent → R Ent} {M P Z H1 Z1 : Hp} {σ : St} {w1 fp : List Addr} {ρ1 : List Ent} {ks : List AK} {vs : List V} {es : List Ent} {Q : VK} {H : Hp} {w : List Addr} (hm : ∀ ρ, ρ.length ≠ n → m ρ = .fail) (mp : Ext M P) (z1 : Ext Z Z1) (n1 : ZN P Z Z1) (b1 : Base P Z1 H1 (fp ++ w1)) (ev : ArgVs c.ca H1 Z1 σ ks vs es fp) (s1 : Slots c.ca H1 M Z1 σ ρ1 w1)
    (hf : FinE c W false M P Z H σ w Q (Ent.safe (runC ks m es ρ1))) : spV0 c n m vs H1 Q (WE W σ) := by
  unfold runC at hf
  cases ep : prep ks es ρ1 with
  | none => rw [ep] at hf; exact hf.elim
  | some pr =>
    obtain ⟨as, ρr⟩ := pr
    rw [ep] at hf
    dsimp only at hf
    obtain ⟨wc, wh, wr, hc, sr, hh, kc⟩ := prep_ok ev s1 ep
    have bb : Base P Z1 H1 (wc ++ (wh ++ wr)) := b1.cnt fun x => by have := hc x; simp only [cnt_app]; omega
    have keepH : ∀ a ∈ wh ++ wr, ∀ o, H1 a = some o → out0 wc H1 a = some o := fun a q o y => out0_of (fun z => (List.nodup_append.mp bb.nd).2.2 a z a q rfl) y
    have bc : BaseT [] (out0 wc H1) Z1 H1 wc := ⟨bb.z, fun a q => bb.zw a (List.mem_append_left _ q), fun a o q => (out0_some q).2, fun a q => out0_in q, (List.nodup_append.mp bb.nd).1, fun a q => bb.hw a (List.mem_append_left _ q), TbOk.nil bb.tb.z⟩
    have tcw : ∀ a o, H1 a = some o → isTC o → out0 wc H1 a = some o := fun a o y tc => out0_of (fun z => by
      obtain ⟨u, e1, e2⟩ := bb.hw a (List.mem_append_left _ z)
      rw [y] at e1; cases e1
      exact isTC_own tc e2) y
    have lc : Ext P (out0 wc H1) := fun a o q => out0_of (fun z => by rw [bb.mw a (List.mem_append_left _ z)] at q; cases q) (bb.m a o q)
    have sc := kc (ca' := c.base.ca) (Mc := out0 wc H1) rfl (fun a q o y => keepH a (List.mem_append_left _ q) o y) (mp.trans lc)
    have hn : vs.length = n := by
      have l2 := sc.length
      rw [List.length_map] at l2
      by_cases e : as.length = n
      · exact l2.trans e
      · rw [hm _ e] at hf
        exact hf.elim
    refine ⟨hn, Z1, wc, as, bc, sc, ?_⟩
    have nn : ∀ {Z2 : Hp}, ZN (out0 wc H1) Z1 Z2 → ZN P Z Z2 := fun q => n1.trans (q.of lc)
    -- behind the call
    have aft : ∀ {Z2 H2 : Hp} {f2 w2 : List Addr} {fin : List Ent}, Ext Z1 Z2 → ZN (out0 wc H1) Z1 Z2 → BaseT [] (out0 wc H1) Z2 H2 (f2 ++ w2) → Slots c.base.ca H2 (out0 wc H1) Z2 (vs.map some) fin w2 →
        ∃ w3, Base P Z2 H2 (f2 ++ w3) ∧ Slots c.ca H2 M Z2 σ (back ks as fin ρr) w3 := fun {Z2 H2 f2 w2 fin} z2 n2 b2 s2 => by
      have kp : ∀ a ∈ wh ++ wr, ∀ o, H1 a = some o → H2 a = some o := fun a q o y => b2.m a o (keepH a q o y)
      obtain ⟨w3, h3, s3⟩ := back_ok (ca' := c.base.ca) (ca := c.ca) rfl (Mc := out0 wc H1) ev.at (hh.mono z2 fun a q o y => kp a (List.mem_append_left _ q) o y) s2 (sr.mono z2 fun a q o y => kp a (List.mem_append_right _ q) o y)
      refine ⟨w3, ?_, s3⟩
      have all : Base P Z2 H2 ((f2 ++ w2) ++ (wh ++ wr)) := by
        have dj : ∀ a ∈ f2 ++ w2, a ∉ wh ++ wr := fun a h q => by
          cases y : H1 a with
          | none => exact (bb.hw a (List.mem_append_right _ q)).nn y
          | some o => have := b2.mw a h; rw [keepH a q o y] at this; cases this
        refine ⟨b2.z, fun a h => ?_, fun a o h => b2.m a o (lc a o h), fun a h => ?_, List.nodup_append.mpr ⟨b2.nd, (List.nodup_append.mp bb.nd).2.1, fun a h b q e => dj a h (e ▸ q)⟩, fun a h => ?_, bb.tb.call0 tcw b2⟩
        · rcases List.mem_append.mp h with h | h
          · exact b2.zw a h
          · cases y : Z2 a with
            | none => rfl
            | some o =>
              rcases n2 a (by rw [y]; exact fun z => nomatch z) with q | q
              · exact absurd (bb.zw a (List.mem_append_right _ h)) q
              · obtain ⟨u, e1, e2⟩ := bb.hw a (List.mem_append_right _ h)
                exact (q.op (keepH a h u e1) e2).elim
        · rcases List.mem_append.mp h with h | h
          · cases y : P a with
            | none => rfl
            | some o => have := b2.mw a h; rw [lc a o y] at this; cases this
          · exact bb.mw a (List.mem_append_right _ h)
        · rcases List.mem_append.mp h with h | h
          · exact b2.hw a h
          · exact (bb.hw a (List.mem_append_right _ h)).keep (kp a h)
      exact all.cnt fun x => by have := h3 x; simp only [cnt_app]; omega
    cases em : m as with
    | fail => rw [em] at hf; exact hf
    | err C d fin =>
      rw [em] at hf
      intro x vd H2 Z2 w2 z2 n2 b2 hx o s2
      obtain ⟨w3, b3, s3⟩ := aft (f2 := []) z2 n2 b2 s2
      exact hf x vd H2 Z2 w3 (z1.trans z2) (nn n2) b3 hx o.ofB s3
    | ok e fin =>
      rw [em] at hf
      intro v H2 Z2 f2 w2 z2 n2 b2 ev2 s2
      obtain ⟨w3, b3, s3⟩ := aft z2 n2 b2 s2
      cases ev2 with
      | own o => exact hf v H2 Z2 f2 w3 (z1.trans z2) (nn n2) b3 (.own o.ofB) s3 fun q => nomatch q
      | @vw t g o =>
        dsimp only [Ent.safe] at hf
        split at hf
        · rename_i q
          obtain rfl := o.nof q
          exact hf v H2 Z2 [] w3 (z1.trans z2) (nn n2) b3 (.own o.ofB) s3 fun q => nomatch q
        · exact hf.elim
def mCallW (ks : List AK) (m : List Ent → R Ent) (ms : List Ent → R (List Ent)) : List Ent → R Ent := fun ρ => (ms ρ).bind fun es ρ1 => Ent.safe (runC ks m es ρ1)
theorem SV.callW {n : Nat} {m : List Ent → R Ent} (hm : ∀ ρ, ρ.length ≠ n → m ρ = .fail) (h : SK c W ks ta ms) : SV c W false (tCallS (spV0 c n m) (WE W) ta) (mCallW ks m ms) := by
  refine ⟨fun M P Z H σ ρ w Q mp b s hf => ?_⟩
  unfold tCallS
  refine h.go M P Z H σ ρ w _ mp b s ?_
  unfold mCallW at hf
  cases e : ms ρ with
  | fail => rw [e] at hf; exact hf
  | err C d ρ' => rw [e] at hf; exact hf
  | ok es ρ1 =>
    rw [e] at hf
    dsimp only [R.bind] at hf
    intro vs H1 Z1 fp w1 z1 n1 b1 ev s1
    exact callW_core hm mp z1 n1 b1 ev s1 hf
/-- x.m(..), x is changed -/
def mMethW (i : Nat) (C mn : Str) (ks : List AK) (m : List Ent → R Ent) (ms : List Ent → R (List Ent)) : List Ent → R Ent := fun ρ => match ρ[i]? with
  | some (.own u) => if chkI C mn u = true then (ms ρ).bind fun es ρ1 => Ent.safe (runC (.io i :: ks) m (.no :: es) ρ1) else .fail
  | _ => .fail
end
end Rm
/-! Rm, part VB: constructors, methods at places, errors, dicts. -/
namespace Rm
open PySem PySem.Spec L2
open PyProof.Rows hiding St
variable [Tb]
section
variable {c : VC} {W : WX} {r : Bool} {t to : TE} {ta : TA} {m : List Ent → R Ent} {ms : List Ent → R (List Ent)} {ks : List AK}
/-- two parts that stand apart from what a callee had -/
theorem Base.beside {P Z1 Z2 H1 H2 Mc : Hp} {wk w2 : List Addr} (bk : Base P Z1 H1 wk) (keep : ∀ a ∈ wk, ∀ o, H1 a = some o → Mc a = some o) (lc : Ext P Mc) (n2 : ZN Mc Z1 Z2) {T2 : List (Addr × Str)} (b2 : BaseT T2 Mc Z2 H2 w2) (tc : ∀ a o, H1 a = some o → isTC o → Mc a = some o) : Base P Z2 H2 (w2 ++ wk) := by
  have dj : ∀ a ∈ w2, a ∉ wk := fun a h q => by
    cases y : H1 a with
    | none => exact (bk.hw a q).nn y
    | some o => have := b2.mw a h; rw [keep a q o y] at this; cases this
  refine ⟨b2.z, fun a h => ?_, fun a o h => b2.m a o (lc a o h), fun a h => ?_, List.nodup_append.mpr ⟨b2.nd, bk.nd, fun a h b q e => dj a h (e ▸ q)⟩, fun a h => ?_, bk.tb.call0 tc b2⟩
  · rcases List.mem_append.mp h with h | h
    · exact b2.zw a h
    · cases y : Z2 a with
      | none => rfl
      | some o =>
        rcases n2 a (by rw [y]; exact fun z => nomatch z) with q | q
        · exact absurd (bk.zw a h) q
        · obtain ⟨u, e1, e2⟩ := bk.hw a h
          exact (q.op (keep a h u e1) e2).elim
  · rcases List.mem_append.mp h with h | h
    · cases y : P a with
      | none => rfl
      | some o => have := b2.mw a h; rw [lc a o y] at this; cases this
    · exact bk.mw a h
  · rcases List.mem_append.mp h with h | h
    · exact b2.hw a h
    · exact (bk.hw a h).keep fun o y => b2.m a o (keep a h o y)
/-- C(..) -/
def runI (C : Str) (ks : List AK) (m : List Ent → R Ent) (es ρ1 : List Ent) : R Ent := match prep ks es ρ1 with
  | some (as, ρr) => (match m (.own (.ins true C []) :: as) with
    | .ok (.own .non) (.own t :: fin) => .ok (.own t) (back ks as fin ρr)
    | .err C d (_ :: fin) => .err C d (back ks as fin ρr)
    | _ => .fail)
  | none => .fail
def mNew (C : Str) (ks : List AK) (m : List Ent → R Ent) (ms : List Ent → R (List Ent)) : List Ent → R Ent := fun ρ => (ms ρ).bind fun es ρ1 => runI C ks m es ρ1
theorem SV.new {n : Nat} {m : List Ent → R Ent} (C : Str) (hm : ∀ ρ, ρ.length ≠ n → m ρ = .fail) (h : SK c W ks ta ms) : SV c W false (tCS (c.ca.cl C) (spV0 c n m) W ta) (mNew C ks m ms) := by
  refine ⟨fun M P Z H σ ρ w Q mp b s hf => ?_⟩
  unfold tCS
  refine h.go M P Z H σ ρ w _ mp b s ?_
  unfold mNew at hf
  cases e : ms ρ with
  | fail => rw [e] at hf; exact hf
  | err C d ρ' => rw [e] at hf; exact hf
  | ok es ρ1 =>
    rw [e] at hf
    dsimp only [R.bind] at hf
    intro vs H0 Z1 fp w1 z1 n1 b0 ev0 s0 x dx hx hdx hne
    have x1 : Ext H0 (upd (upd H0 dx (.own x)) x (.ins (c.ca.cl C) dx [])) := (Ext.new hdx).trans (Ext.new (by rw [upd_ne (Ne.symm hne)]; exact hx))
    generalize eH : upd (upd H0 dx (.own x)) x (.ins (c.ca.cl C) dx []) = H1 at x1
    have hx1 : H1 x = some (.ins (c.ca.cl C) dx []) := by rw [← eH, upd_same]
    unfold runI at hf
    cases ep : prep ks es ρ1 with
    | none => rw [ep] at hf; exact hf.elim
    | some pr =>
    obtain ⟨as, ρr⟩ := pr
    rw [ep] at hf
    dsimp only at hf
    obtain ⟨wc, wh, wr, hc, sr, hh, kc⟩ := prep_ok ev0 s0 ep
    have bb0 : Base P Z1 H0 (wc ++ (wh ++ wr)) := b0.cnt fun x => by have := hc x; simp only [cnt_app]; omega
    have bb : Base P Z1 H1 (x :: (wc ++ (wh ++ wr))) := by
      have q := bb0.ext x1
      refine ⟨q.z, fun a h => ?_, q.m, fun a h => ?_, List.nodup_cons.mpr ⟨bb0.nin hx, q.nd⟩, fun a h => ?_, ⟨bb0.tb.m, bb0.tb.z, bb0.tb.t.ext x1⟩⟩
      · rcases List.mem_cons.mp h with rfl | h
        · exact b0.zn hx
        · exact q.zw a h
      · rcases List.mem_cons.mp h with rfl | h
        · exact b0.mn hx
        · exact q.mw a h
      · rcases List.mem_cons.mp h with rfl | h
        · exact ⟨_, hx1, rfl⟩
        · exact q.hw a h
    have keepH : ∀ a ∈ wh ++ wr, ∀ o, H1 a = some o → out0 (x :: wc) H1 a = some o := fun a q o y => out0_of (fun z => by
      have := List.nodup_append.mp (show ((x :: wc) ++ (wh ++ wr)).Nodup from bb.nd)
      exact this.2.2 a z a q rfl) y
    have bk : Base P Z1 H1 (wh ++ wr) := bb.cnt fun y => by rw [cnt_cons]; simp only [cnt_app]; omega
    have bc : BaseT [] (out0 (x :: wc) H1) Z1 H1 (x :: wc) := ⟨bb.z, fun a q => bb.zw a (by simp at q ⊢; rcases q with q | q <;> simp [q]), fun a o q => (out0_some q).2, fun a q => out0_in q, (List.nodup_append.mp (show ((x :: wc) ++ (wh ++ wr)).Nodup from bb.nd)).1, fun a q => bb.hw a (by simp at q ⊢; rcases q with q | q <;> simp [q]), TbOk.nil bb.tb.z⟩
    have tcw : ∀ a o, H1 a = some o → isTC o → out0 (x :: wc) H1 a = some o := fun a o y tc => out0_of (fun z => by
      obtain ⟨u, e1, e2⟩ := bb.hw a (by simp at z ⊢; rcases z with z | z <;> simp [z])
      rw [y] at e1; cases e1
      exact isTC_own tc e2) y
    have lc : Ext P (out0 (x :: wc) H1) := fun a o q => out0_of (fun z => by rw [bb.mw a (by simp at z ⊢; rcases z with z | z <;> simp [z])] at q; cases q) (bb.m a o q)
    have sc0 := kc (ca' := c.base.ca) (Mc := out0 (x :: wc) H1) rfl (fun a q o y => keepH a (List.mem_append_left _ q) o (x1 a o y)) (mp.trans lc)
    have sc1 := sc0.mono (H' := H1) (Ext.refl _) fun a _ o y => x1 a o y
    have sc : Slots c.base.ca H1 (out0 (x :: wc) H1) Z1 ((V.ref x :: vs).map some) (.own (.ins true C []) :: as) ([x] ++ wc) := .cons (.own (.insO (fs := []) hx1 rfl .nil List.nodup_nil)) sc1
    have hn : (V.ref x :: vs).length = n := by
      have l2 := sc.length
      rw [List.length_map] at l2
      by_cases e : (Ent.own (T.ins true C []) :: as).length = n
      · exact l2.trans e
      · rw [hm _ e] at hf
        exact hf.elim
    refine ⟨hn, Z1, x :: wc, .own (.ins true C []) :: as, bc, sc, ?_⟩
    have nn : ∀ {Z2 : Hp}, ZN (out0 (x :: wc) H1) Z1 Z2 → ZN P Z Z2 := fun q => n1.trans (q.of lc)
    have aft : ∀ {Z2 H2 : Hp} {f2 w2 : List Addr} {fin : List Ent}, Ext Z1 Z2 → ZN (out0 (x :: wc) H1) Z1 Z2 → BaseT [] (out0 (x :: wc) H1) Z2 H2 (f2 ++ w2) → Slots c.base.ca H2 (out0 (x :: wc) H1) Z2 (vs.map some) fin w2 →
        ∃ w3, Base P Z2 H2 (f2 ++ w3) ∧ Slots c.ca H2 M Z2 σ (back ks as fin ρr) w3 := fun {Z2 H2 f2 w2 fin} z2 n2 b2 s2 => by
      have kp : ∀ a ∈ wh ++ wr, ∀ o, H0 a = some o → H2 a = some o := fun a q o y => b2.m a o (keepH a q o (x1 a o y))
      obtain ⟨w3, h3, s3⟩ := back_ok (ca' := c.base.ca) (ca := c.ca) rfl (Mc := out0 (x :: wc) H1) ev0.at (hh.mono z2 fun a q o y => kp a (List.mem_append_left _ q) o y) s2 (sr.mono z2 fun a q o y => kp a (List.mem_append_right _ q) o y)
      exact ⟨w3, (bk.beside keepH lc n2 b2 tcw).cnt fun x => by have := h3 x; simp only [cnt_app]; omega, s3⟩
    cases em : m (.own (.ins true C []) :: as) with
    | fail => rw [em] at hf; exact hf
    | err C' d fin =>
      rw [em] at hf
      intro xx vd H2 Z2 w2 z2 n2 b2 hxx o s2
      cases s2 with
      | @cons _ _ e0 fin f g sl s2 =>
      obtain ⟨w3, b3, s3⟩ := aft (f2 := []) z2 n2 (b2.cnt fun x => by simp only [cnt_app, cnt_nil]; omega) s2
      exact hf xx vd H2 Z2 w3 (z1.trans z2) (nn n2) b3 hxx o.ofB s3
    | ok e fin =>
      rw [em] at hf
      intro v H2 Z2 f2 w2 z2 n2 b2 ev2 s2
      cases s2 with
      | @cons _ _ e0 fin f g sl s2 =>
      cases sl with
      | no => cases e <;> first | exact hf.elim | (rename_i tt; cases tt <;> exact hf.elim)
      | vw o => cases e <;> first | exact hf.elim | (rename_i tt; cases tt <;> exact hf.elim)
      | exc _ _ _ => cases e <;> first | exact hf.elim | (rename_i tt; cases tt <;> exact hf.elim)
      | own o =>
        cases ev2 with
        | vw _ => exact hf.elim
        | own o2 =>
          cases o2 with
          | non =>
            obtain ⟨w3, b3, s3⟩ := aft (f2 := f) z2 n2 (b2.cnt fun x => by simp only [cnt_app, cnt_nil]; omega) s2
            exact ⟨rfl, hf (.ref x) H2 Z2 f w3 (z1.trans z2) (nn n2) b3 (.own o.ofB) s3 fun q => nomatch q⟩
          | _ => exact hf.elim
/-! ### literals -/
theorem newp_nf {H H' : Hp} : NF (newp H H') := fun a o u e => by
  unfold newp at e
  split at e
  · split at e <;> cases e
    rename_i h
    cases h
  · cases e
theorem sv_lit {d : PyData} : SV c W true (tLit d) (mC (enc d)) := by
  refine ⟨fun M P Z H σ ρ w Q mp b s hf => ?_⟩
  intro v H' x dr
  have e1 : Ext (newp H H') (fun a => match Z a with
    | some o => some o
    | none => newp H H' a) := fun a o h => by
    have hn : Z a = none := by
      cases y : Z a with
      | none => rfl
      | some o' => have := b.z _ _ y; rw [(newp_some h).1] at this; cases this
    simp only [hn]; exact h
  have e2 : Ext Z (fun a => match Z a with
    | some o => some o
    | none => newp H H' a) := fun a o h => by simp only [h]
  have o := (Dr.ow (ca := c.ca) (H := H') newp_nf dr).mono (H' := H') e1 (fun a q => absurd q List.not_mem_nil)
  have bx := b.ext x
  refine hf v H' _ [] w e2 (fun a h => ?_) ⟨fun a o h => ?_, fun a h => ?_, bx.m, bx.mw, bx.nd, bx.hw, ⟨b.tb.m, fun a ps e => ?_, b.tb.t.ext x⟩⟩ (.own o) (s.mono e2 fun a _ o y => x a o y) fun _ => ⟨x, rfl⟩
  · cases y : Z a with
    | some o => exact Or.inl (fun z => nomatch z)
    | none =>
      simp only [y] at h
      refine Or.inr ?_
      cases q : newp H H' a with
      | none => exact absurd q h
      | some o => exact .of_none (b.mn (newp_some q).1)
  · cases y : Z a with
    | some o' => simp only [y] at h; cases h; exact bx.z a _ y
    | none => simp only [y] at h; exact (newp_some h).2
  · have y := b.zw a h
    simp only [y]
    cases q : newp H H' a with
    | none => rfl
    | some o => exact absurd (newp_some q).1 (b.hw a h).nn
  · cases y : Z a with
    | some o => simp only [y] at e; cases e; exact b.tb.z _ _ y
    | none => simp only [y] at e; exact newp_not _ _ e
end
/-! ### raise C(e) -/
def mRaise (C : Str) (me : List Ent → R Ent) : List Ent → O := fun ρ => (me ρ).then fun e ρ' => match e.fz with
  | some t => .err C t ρ'
  | none => .fail
section
variable {F : FC} {W : WX} {r : Bool} {te : TE} {me : List Ent → R Ent}
theorem SS.raise (C : Str) (h : SV F.c W r te me) : SS F W (fun _ σ H => tErr (F.c.ca.cl C) (F.c.ef C) te σ H fun cls d H' => W cls d σ H') (mRaise C me) := by
  refine ⟨fun M P Z H σ ρ w D mp b s pn hf => ?_⟩
  unfold tErr
  refine h.go M P Z H σ ρ w _ mp b s ?_
  unfold mRaise at hf
  cases e : me ρ with
  | fail => rw [e] at hf; exact hf
  | err C d ρ' => rw [e] at hf; exact fin_err pn hf
  | ok en ρ' =>
    rw [e] at hf
    dsimp only [R.then] at hf
    intro v H1 Z1 fp w1 z1 n1 b1 ev s1 ro
    split at hf
    · rename_i tr q
      refine kErr_of fun x hx => ?_
      have o := ev.fz (Z' := fzZ fp H1 Z1) (fzZ_ext b1) (fun a y => fzZ_in a y) q
      have b2 := b1.fz
      have z2 := fzZ_ext b1
      have z3 := z2.trans (Ext.new (o := .xd [(F.c.ef C, v)]) (b2.zn hx))
      exact hf x v σ _ (upd (fzZ fp H1 Z1) x (.xd [(F.c.ef C, v)])) w1 (z1.trans z3) (n1.trans ((fzZ_zn b1).trans (ZN.new b2 hx))) (b2.newZ hx) upd_same (o.any.mono (H := H1) (Ext.new (b2.zn hx)) fun a q => absurd q List.not_mem_nil) (s1.mono z3 fun a _ o y => Ext.new hx a o y) pn
    · exact hf.elim
end
end Rm
/-! Rm, part VC: loops, comprehensions. -/
namespace Rm
open PySem PySem.Spec L2
open PyProof.Rows hiding St
variable [Tb]
/-- what an iterator gives at a turn -/
def YT (ca : Ks) (Z : Hp) (ts : List T) : Nat → Hp → V → Hp → Prop := fun i H x H' => ∃ t, ts[i]? = some t ∧ ((H' = H ∧ Ow ca H Z x t []) ∨ (∃ p xs us, x = .ref p ∧ H p = none ∧ H' = upd H p (.tup xs) ∧ t = .tup us ∧ OwA ca H Z xs us []) ∨ ∃ q xs us, x = .ref q ∧ H q = some (.tup xs) ∧ H' = H ∧ t = .tup us ∧ OwA ca H Z xs us [])
/-- an iterator that gives ts -/
def IterOk (ca : Ks) (J : It) (P Z : Hp) (ts : List T) : Prop := Walk J ts.length (fun H => Ext Z H ∧ Ext P H) (YT ca Z ts)
structure SI (c : VC) (W : WX) (wi : TI) (m : List Ent → R (List T)) : Prop where
  go : ∀ (M P Z H : Hp) (σ : St) (ρ : List Ent) (w : List Addr) (Q : It → Hp → Prop), Ext M P → Base P Z H w → Slots c.ca H M Z σ ρ w → (match m ρ with
    | .ok ts ρ' => ∀ J H' Z' w', Ext Z Z' → ZN P Z Z' → Base P Z' H' w' → Slots c.ca H' M Z' σ ρ' w' → IterOk c.ca J P Z' ts → Q J H'
    | .err C d ρ' => ∀ x vd H' Z' w', Ext Z Z' → ZN P Z Z' → Base P Z' H' w' → Z' x = some (.xd [(c.ef C, vd)]) → Ow c.ca H' Z' vd d [] → Slots c.ca H' M Z' σ ρ' w' → W (.ref (c.ca.cl C)) (some x) σ H'
    | .fail => False) → wi σ H Q
/-- .. at one state -/
def SIp (c : VC) (W : WX) (M P Z H : Hp) (σ : St) (wi : TI) (r : R (List T)) : Prop := ∀ Q : It → Hp → Prop, (match r with
    | .ok ts ρ' => ∀ J H' Z' w', Ext Z Z' → ZN P Z Z' → Base P Z' H' w' → Slots c.ca H' M Z' σ ρ' w' → IterOk c.ca J P Z' ts → Q J H'
    | .err C d ρ' => ∀ x vd H' Z' w', Ext Z Z' → ZN P Z Z' → Base P Z' H' w' → Z' x = some (.xd [(c.ef C, vd)]) → Ow c.ca H' Z' vd d [] → Slots c.ca H' M Z' σ ρ' w' → W (.ref (c.ca.cl C)) (some x) σ H'
    | .fail => False) → wi σ H Q
/-- the items of a tree -/
def T.items : T → Option (List T)
  | .lst _ ts => some ts
  | .tup ts => some ts
  | .scr ts => some ts
  | .str z => some (z.cps.toList.map fun c => .str ⟨#[c]⟩)
  | _ => none
/-- as the walked thing is kept -/
def mItV (m : List Ent → R Ent) : List Ent → R (List T) := fun ρ => (m ρ).bind fun e ρ' => match e.fz with
  | some t => (match t.items with
    | some ts => .ok ts ρ'
    | none => .fail)
  | none => .fail
section
variable {ca : Ks} {P Z Z' H : Hp} {v : V} {t : T} {ts : List T}
theorem YT.mono (z : Ext Z Z') {i : Nat} {H : Hp} {x : V} {H' : Hp} (h : YT ca Z ts i H x H') : YT ca Z' ts i H x H' := by
  obtain ⟨t, e, h⟩ := h
  refine ⟨t, e, ?_⟩
  rcases h with ⟨e1, o⟩ | ⟨p, xs, us, e1, e2, e3, e4, A⟩ | ⟨p, xs, us, e1, e2, e3, e4, A⟩
  · exact Or.inl ⟨e1, o.mono z fun _ q => absurd q List.not_mem_nil⟩
  · exact Or.inr (Or.inl ⟨p, xs, us, e1, e2, e3, e4, A.mono z fun _ q => absurd q List.not_mem_nil⟩)
  · exact Or.inr (Or.inr ⟨p, xs, us, e1, e2, e3, e4, A.mono z fun _ q => absurd q List.not_mem_nil⟩)
theorem IterOk.mono {J : It} (z : Ext Z Z') (h : IterOk ca J P Z ts) : IterOk ca J P Z' ts := Walk.mono h (fun H q => ⟨z.trans q.1, q.2⟩) fun i H x H' _ _ y => y.mono z
theorem OwA.get0 : ∀ {xs : List V} {ts : List T} {i : Nat} {x : V}, OwA ca H Z xs ts [] → xs[i]? = some x → ∃ t, ts[i]? = some t ∧ Ow ca H Z x t []
  | [], _, _, _, A, e => by simp at e
  | y :: xs, _, 0, _, A, e => by
    obtain ⟨t, r, rfl, h, A⟩ := A.inv0
    simp at e; subst e
    exact ⟨t, rfl, h⟩
  | y :: xs, _, i + 1, _, A, e => by
    obtain ⟨t, r, rfl, h, A⟩ := A.inv0
    simp at e
    obtain ⟨t', e', o⟩ := OwA.get0 A e
    exact ⟨t', by simpa using e', o⟩
theorem items_cases (o : Ow ca H Z v t []) (e : t.items = some ts) : (∃ a xs, v = .ref a ∧ rdo Z a = some (.lst xs) ∧ OwA ca H Z xs ts []) ∨ (∃ a xs, v = .ref a ∧ rdo Z a = some (.tup xs) ∧ OwA ca H Z xs ts []) ∨ ∃ z : Str, v = .str z ∧ ts = z.cps.toList.map fun c => .str ⟨#[c]⟩ := by
  generalize hg : ([] : List Addr) = g0 at o
  cases o with
  | non => cases e
  | bl k => cases e
  | int i => cases e
  | str z => cases e; exact Or.inr (Or.inr ⟨_, rfl, rfl⟩)
  | tup ez A => cases e; exact Or.inr (Or.inl ⟨_, _, rfl, rdo_of ez (fun _ _ y => nomatch y), A⟩)
  | lstF ez A => cases e; exact Or.inl ⟨_, _, rfl, rdo_of ez (fun _ _ y => nomatch y), A⟩
  | lstO ez A => cases hg
  | dctF e1 k A => cases e
  | dtpF e1 k A => cases e
  | dctO e1 k A nd => cases e
  | dtpO e1 k A nd => cases e
  | insF e1 k A => cases e
  | insO e1 k A nd => cases e
  | scr ez A => cases e; exact Or.inl ⟨_, _, rfl, ez, A⟩
theorem YAt.yt {xs : List V} (A : OwA ca H Z xs ts []) {i : Nat} {H1 : Hp} {x : V} {H2 : Hp} (y : YAt xs i H1 x H2) : YT ca Z ts i H1 x H2 := by
  obtain ⟨e1, ex⟩ := y
  obtain ⟨t, et, o⟩ := A.get0 ex
  exact ⟨t, et, Or.inl ⟨e1, o.any⟩⟩
theorem iter_any {K : PySem.W.Frag} {H1 : Hp} {Q : It → Hp → Prop} {w : List Addr} {σ : St} (b : Base P Z H1 w) (o : Ow ca H1 Z v t []) (e : t.items = some ts) (h : ∀ J, IterOk ca J P Z ts → Q J H1) : iAny K (fun _ H k => k v H) σ H1 Q := by
  unfold iAny
  rcases items_cases o e with ⟨a, xs, rfl, ez, A⟩ | ⟨a, xs, rfl, ez, A⟩ | ⟨z, rfl, rfl⟩
  · simp only [b.z.o ez]
    refine h _ ?_
    unfold IterOk
    rw [← A.length]
    exact walk_list.mono (fun H q => Or.inl (rdo_rd (q.1.o ez))) fun i H x H' _ _ y => YAt.yt A y
  · simp only [b.z.o ez]
    refine h _ ?_
    unfold IterOk
    rw [← A.length]
    exact walk_tup.mono (fun H q => Or.inl (rdo_rd (q.1.o ez))) fun i H x H' _ _ y => YAt.yt A y
  · refine h _ ?_
    have hl : (z.cps.toList.map fun c => T.str ⟨#[c]⟩).length = z.cps.size := by simp
    unfold IterOk
    rw [hl]
    refine walk_str.mono (fun _ _ => trivial) fun i H x H' _ _ y => ?_
    obtain ⟨e1, c, ec, rfl⟩ := y
    refine ⟨.str ⟨#[c]⟩, ?_, Or.inl ⟨e1, .str _⟩⟩
    rw [List.getElem?_map]
    have : z.cps.toList[i]? = some c := by simpa using ec
    rw [this]; rfl
end
section
variable {c : VC} {W : WX} {r : Bool} {te : TE} {ta : TA} {K : PySem.W.Frag} {me : List Ent → R Ent} {ms : List Ent → R (List Ent)}
theorem SI.any (h : SV c W r te me) : SI c W (iAny K te) (mItV me) := by
  refine ⟨fun M P Z H σ ρ w Q mp b s hf => ?_⟩
  unfold iAny
  refine h.go M P Z H σ ρ w _ mp b s ?_
  unfold mItV at hf
  cases e : me ρ with
  | fail => rw [e] at hf; exact hf
  | err C d ρ' => rw [e] at hf; exact hf
  | ok en ρ' =>
    rw [e] at hf
    dsimp only [R.bind] at hf
    intro v H1 Z1 fp w1 z1 n1 b1 ev s1 ro
    cases q : en.fz with
    | none => rw [q] at hf; exact hf.elim
    | some tr =>
      rw [q] at hf
      dsimp only at hf
      have o := ev.fz (Z' := fzZ fp H1 Z1) (fzZ_ext b1) (fun a y => fzZ_in a y) q
      have b2 := b1.fz
      cases qi : tr.items with
      | none => rw [qi] at hf; exact hf.elim
      | some ts =>
        rw [qi] at hf
        exact iter_any (K := K) (σ := σ) (ca := c.ca) (P := P) b2 o qi fun J hJ => hf J H1 _ w1 (z1.trans (fzZ_ext b1)) (n1.trans (fzZ_zn b1)) b2 (s1.mono (fzZ_ext b1) fun _ _ _ y => y) hJ
/-- range -/
def rangeT (lo : Int) (n : Nat) : List T := (List.range n).map fun i => .int (lo + (i : Nat))
def mRange1 (me : List Ent → R Ent) : List Ent → R (List T) := fun ρ => (me ρ).bind fun e ρ' => match e.t with
  | .int j => if okR j = true then .ok (rangeT 0 j.toNat) ρ' else .fail
  | _ => .fail
theorem range_ok {ca : Ks} {P Z : Hp} {lo : Int} {n : Nat} : IterOk ca (Itr lo n) P Z (rangeT lo n) := by
  have hl : (rangeT lo n).length = n := by simp [rangeT]
  unfold IterOk
  rw [hl]
  refine ⟨fun i _ hi _ => hi, fun _ _ => Nat.le_refl _, fun i H x H' hi _ y => ?_⟩
  obtain ⟨e1, rfl⟩ := y
  refine ⟨.int (lo + (i : Nat)), ?_, Or.inl ⟨e1, .int _⟩⟩
  simp [rangeT, hi]
theorem SI.range1 (h : SV c W r te me) : SI c W (iRng1 (tCons te tNil)) (mRange1 me) := by
  refine ⟨fun M P Z H σ ρ w Q mp b s hf => ?_⟩
  unfold iRng1 tCons tNil
  refine h.go M P Z H σ ρ w _ mp b s ?_
  unfold mRange1 at hf
  cases e : me ρ with
  | fail => rw [e] at hf; exact hf
  | err C d ρ' => rw [e] at hf; exact hf
  | ok en ρ' =>
    rw [e] at hf
    dsimp only [R.bind] at hf
    intro v H1 Z1 fp w1 z1 n1 b1 ev s1 ro
    obtain ⟨g, o⟩ := ev.ow
    generalize en.t = tr at hf o
    cases tr with
    | int j =>
      obtain rfl := ow_int o
      dsimp only at hf
      by_cases q : okR j = true
      · rw [if_pos q] at hf
        exact ⟨j, rfl, (okR_le q).1, (okR_le q).2, hf _ H1 Z1 w1 z1 n1 b1.drop s1 range_ok⟩
      · rw [if_neg q] at hf
        exact hf.elim
    | _ => exact hf.elim
/-! ### for -/
def forM (g : T → List Ent → Option (List Ent)) (mb : List Ent → O) : List T → List Ent → O
  | [], ρ => .nx ρ
  | t :: ts, ρ => match g t ρ with
    | none => .fail
    | some ρ1 => match mb ρ1 with
      | .nx ρ2 => forM g mb ts ρ2
      | .ct ρ2 => forM g mb ts ρ2
      | .bk ρ2 => .nx ρ2
      | o => o
def mFor (mi : List Ent → R (List T)) (g : T → List Ent → Option (List Ent)) (mb : List Ent → O) : List Ent → O := fun ρ => (mi ρ).then fun ts ρ1 => forM g mb ts ρ1
/-- a turn begins -/
theorem turn_in {ca : Ks} {P Z H H' : Hp} {w : List Addr} {ts : List T} {i : Nat} {x : V} (b : Base P Z H w) (y : YT ca Z ts i H x H') : ∃ t Z', ts[i]? = some t ∧ Ext Z Z' ∧ ZN P Z Z' ∧ Base P Z' H' w ∧ Ow ca H' Z' x t [] ∧ Ext H H' := by
  obtain ⟨t, e, y⟩ := y
  rcases y with ⟨rfl, o⟩ | ⟨p, xs, us, rfl, hp, rfl, rfl, A⟩ | ⟨p, xs, us, rfl, hp, rfl, rfl, A⟩
  · exact ⟨t, Z, e, Ext.refl _, ZN.refl, b, o, Ext.refl _⟩
  · exact ⟨_, upd Z p (.tup xs), e, Ext.new (b.zn hp), ZN.new b hp, b.newZ hp, .tup upd_same (OwA.mono (H := H) (Ext.new (b.zn hp)) (fun a q => absurd q List.not_mem_nil) A), Ext.new hp⟩
  · have xz : Ext Z (upd Z p (.tup xs)) := fun a o q => by
      by_cases ea : a = p
      · subst ea; rw [upd_same]; exact hp.symm.trans (b.z _ _ q)
      · rw [upd_ne ea]; exact q
    have np : p ∉ w := fun q => by
      obtain ⟨u, e1, e2⟩ := b.hw p q
      rw [hp] at e1; cases e1; cases e2
    refine ⟨_, upd Z p (.tup xs), e, xz, fun a q => ?_, ⟨fun a o q => ?_, fun a q => ?_, b.m, b.mw, b.nd, b.hw, ⟨b.tb.m, b.tb.z.upd (fun _ z => nomatch z), b.tb.t⟩⟩, .tup upd_same (OwA.mono (H := H') xz (fun a q => absurd q List.not_mem_nil) A), Ext.refl _⟩
    · by_cases ea : a = p
      · subst ea
        refine Or.inr fun o e2 => ?_
        have := b.m _ _ e2
        rw [hp] at this; cases this
        exact ⟨_, rfl⟩
      · rw [upd_ne ea] at q; exact Or.inl q
    · by_cases ea : a = p
      · subst ea; rw [upd_same] at q; cases q; exact hp
      · rw [upd_ne ea] at q; exact b.z _ _ q
    · rw [upd_ne (fun ea : a = p => np (ea ▸ q))]; exact b.zw a q
theorem drop_cons {α : Type} {ts : List α} {i : Nat} {t : α} (h : ts[i]? = some t) : ts.drop i = t :: ts.drop (i + 1) := by
  obtain ⟨hi, rfl⟩ := List.getElem?_eq_some_iff.mp h
  exact List.drop_eq_getElem_cons hi
section
variable {F : FC} {wi : TI} {g : TG} {tb : TS} {tt : TT} {mi : List Ent → R (List T)} {mg : T → List Ent → Option (List Ent)} {mb : List Ent → O} {mt : List Ent → R Bool}
theorem SS.for_core {M P Z H : Hp} {σ : St} {ρ : List Ent} {D : Ends} (hi : SIp F.c W M P Z H σ wi (mi ρ)) (hg : SG F g mg) (hb : SS F W tb mb) (mp : Ext M P) (pn : Pin F.pin F.σ0 σ) (hf : FinS F W M P Z D (mFor mi mg mb ρ)) : tFor wi g tb D σ H := by
  unfold tFor
  refine hi _ ?_
  unfold mFor at hf
  cases e : mi ρ with
  | fail => rw [e] at hf; exact hf
  | err C d ρ' => rw [e] at hf; exact fin_err pn hf
  | ok ts ρ1 =>
    rw [e] at hf
    dsimp only [R.then] at hf
    intro J H1 Z1 w1 z1 n1 b1 s1 hJ
    refine for_it hJ (fun i σ H => ∃ Z2 w2 ρ2, Ext Z1 Z2 ∧ Base P Z2 H w2 ∧ Slots F.c.ca H M Z2 σ ρ2 w2 ∧ Pin F.pin F.σ0 σ ∧ FinS F W M P Z2 D (forM mg mb (ts.drop i) ρ2)) ?_ ?_ ?_ ?_
    · exact ⟨Z1, w1, ρ1, Ext.refl _, b1, s1, pn, FinS.go z1 n1 hf⟩
    · rintro i σ2 H2 _ ⟨Z2, w2, ρ2, z2, b2, _⟩
      exact ⟨fun a o q => b2.z a o (z2 a o q), b2.m⟩
    · rintro i x σ2 H2 H3 hi2 ⟨Z2, w2, ρ2, z2, b2, s2, pn2, f2⟩ y
      obtain ⟨t, Z3, et, z3, n3, b3, o3, x3⟩ := turn_in b2 (y.mono z2)
      rw [drop_cons et] at f2
      unfold forM at f2
      have s3 := s2.mono z3 fun a _ o y => x3 a o y
      refine hg.go M P Z3 H3 σ2 ρ2 w2 x t _ b3 o3 s3 pn2 ?_
      cases eg : mg t ρ2 with
      | none => rw [eg] at f2; exact f2.elim
      | some ρ4 =>
        rw [eg] at f2
        dsimp only at f2
        intro σ4 w4 b4 s4 pn4
        refine hb.go M P Z3 H3 σ4 ρ4 w4 _ mp b4 s4 pn4 ?_
        have f3 := FinS.go z3 n3 f2
        cases eb : mb ρ4 with
        | nx ρ5 =>
          rw [eb] at f3
          intro σ5 H5 Z5 w5 z5 n5 b5 s5 pn5
          exact ⟨Z5, w5, ρ5, (z2.trans z3).trans z5, b5, s5, pn5, FinS.go z5 n5 f3⟩
        | ct ρ5 =>
          rw [eb] at f3
          intro σ5 H5 Z5 w5 z5 n5 b5 s5 pn5
          exact ⟨Z5, w5, ρ5, (z2.trans z3).trans z5, b5, s5, pn5, FinS.go z5 n5 f3⟩
        | bk ρ5 => rw [eb] at f3; exact f3
        | rt e5 ρ5 => rw [eb] at f3; exact f3
        | err C d ρ5 => rw [eb] at f3; exact f3
        | fail => rw [eb] at f3; exact f3
    · rintro σ2 H2 ⟨Z2, w2, ρ2, z2, b2, s2, pn2, f2⟩
      rw [List.drop_length] at f2
      exact f2 σ2 H2 Z2 w2 (Ext.refl _) ZN.refl b2 s2 pn2
theorem SS.for_ (hi : SI F.c W wi mi) (hg : SG F g mg) (hb : SS F W tb mb) : SS F W (tFor wi g tb) (mFor mi mg mb) :=
  ⟨fun M P Z H σ ρ w D mp b s pn hf => SS.for_core (fun Q h => hi.go M P Z H σ ρ w Q mp b s h) hg hb mp pn hf⟩
/-! ### while -/
end
/-! ### comprehensions -/
def wipeE (ρ : List Ent) : List Nat → List Ent
  | [] => ρ
  | v :: vs => (wipeE ρ vs).set v .no
def lcM (vs : List Nat) (g : T → List Ent → Option (List Ent)) (mt : List Ent → R Bool) (me : List Ent → R Ent) : List T → List T → List Ent → R Ent
  | [], acc, ρ => .ok (.own (.lst true acc)) ρ
  | t :: ts, acc, ρ => match g t ρ with
    | none => .fail
    | some ρ1 => match mt ρ1 with
      | .ok true ρ2 => (match me ρ2 with
        | .ok e ρ3 => (match e.fz with
          | some u => if acc.length < sizeLine then lcM vs g mt me ts (acc ++ [u]) (wipeE ρ3 vs) else .fail
          | none => .fail)
        | _ => .fail)
      | .ok false ρ2 => lcM vs g mt me ts acc (wipeE ρ2 vs)
      | _ => .fail
def mLc (vs : List Nat) (mi : List Ent → R (List T)) (g : T → List Ent → Option (List Ent)) (mt : List Ent → R Bool) (me : List Ent → R Ent) : List Ent → R Ent := fun ρ => (mi ρ).bind fun ts ρ1 => lcM vs g mt me ts [] (wipeE ρ1 vs)
theorem Slots.wipe {ca : Ks} {M Z H : Hp} {σ : St} {ρ : List Ent} {w : List Addr} (s : Slots ca H M Z σ ρ w) : ∀ vs : List Nat, ∃ w', (∀ x, cnt x w' ≤ cnt x w) ∧ Slots ca H M Z (wipe σ vs) (wipeE ρ vs) w'
  | [] => ⟨w, fun _ => Nat.le_refl _, s⟩
  | v :: vs => by
    obtain ⟨w', hc, s'⟩ := Slots.wipe s vs
    unfold L2.wipe wipeE
    cases e : (wipeE ρ vs)[v]? with
    | none =>
      have h1 := s'.non0 e
      have q1 := List.getElem?_eq_none_iff.mp h1
      have q2 := List.getElem?_eq_none_iff.mp e
      rw [List.set_eq_of_length_le q1, List.set_eq_of_length_le q2]
      exact ⟨w', hc, s'⟩
    | some en =>
      obtain ⟨x, l, f, r, e1, e2, sl, kk⟩ := s'.split e
      have s2 := kk (x' := none) (f' := []) (fun _ _ _ q => q) (Ext.refl _) .no
      exact ⟨l ++ ([] ++ r), fun y => by have := hc y; rw [e2] at this; simp only [cnt_app, cnt_nil] at this ⊢; omega, s2⟩
theorem wipeE_length (ρ : List Ent) : ∀ vs : List Nat, (wipeE ρ vs).length = ρ.length
  | [] => rfl
  | v :: vs => by unfold wipeE; rw [List.length_set, wipeE_length ρ vs]
theorem wipe_get {σ : St} {i : Nat} : ∀ {vs : List Nat}, i ∉ vs → (L2.wipe σ vs)[i]? = σ[i]?
  | [], _ => rfl
  | v :: vs, h => by
    unfold L2.wipe
    rw [List.getElem?_set_ne (fun e => h (by rw [e]; exact List.mem_cons_self)), wipe_get fun q => h (List.mem_cons_of_mem _ q)]
theorem wipe_in {σ : St} {i : Nat} : ∀ {vs : List Nat}, i ∈ vs → i < σ.length → (L2.wipe σ vs)[i]? = some none
  | [], h, _ => nomatch h
  | v :: vs, h, l => by
    unfold L2.wipe
    by_cases e : v = i
    · subst e
      rw [List.getElem?_set_self (by rw [wipe_length]; exact l)]
    · rw [List.getElem?_set_ne e]
      exact wipe_in ((List.mem_cons.mp h).resolve_left fun q => e q.symm) l
/-- the entries of a comprehension's names are none -/
theorem wipeE_get {ρ : List Ent} {i : Nat} : ∀ {vs : List Nat}, i ∈ vs → i < ρ.length → (wipeE ρ vs)[i]? = some .no
  | [], h, _ => nomatch h
  | v :: vs, h, l => by
    unfold wipeE
    by_cases e : v = i
    · subst e
      rw [List.getElem?_set_self (by rw [wipeE_length]; exact l)]
    · rw [List.getElem?_set_ne e]
      exact wipeE_get ((List.mem_cons.mp h).resolve_left fun q => e q.symm) l
/-- slots that differ where nothing is told -/
theorem Slots.where_ {ca : Ks} {M Z H : Hp} : ∀ {σ σ' : St} {ρ : List Ent} {w : List Addr}, Slots ca H M Z σ ρ w → σ'.length = σ.length → (∀ i : Nat, ρ[i]? ≠ some .no → σ'[i]? = σ[i]?) → Slots ca H M Z σ' ρ w
  | _, [], _, _, .nil, _, _ => .nil
  | _, _ :: _, _, _, .nil, l, _ => nomatch l
  | _, [], _, _, .cons _ _, l, _ => nomatch l
  | _, x' :: σ', _, _, .cons (e := e) a s, l, h => by
    refine .cons ?_ (Slots.where_ s (by simpa using l) fun i q => by simpa using h (i + 1) (by simpa using q))
    cases a with
    | no => exact .no
    | own o =>
      have := h 0 (by simp)
      simp at this
      rw [this]; exact .own o
    | vw o =>
      have := h 0 (by simp)
      simp at this
      rw [this]; exact .vw o
    | exc x e2 o =>
      have := h 0 (by simp)
      simp at this
      rw [this]; exact .exc x e2 o
/-- the slots that a comprehension leaves -/
def but (n : Nat) (vs : List Nat) : List Nat := (List.range n).filter fun i => !vs.contains i
theorem wipe_eq {n : Nat} {vs : List Nat} {σ σ2 : St} (hl : σ.length = n) (p : Pin (but n vs) (L2.wipe σ vs) σ2) : L2.wipe σ2 vs = L2.wipe σ vs := by
  have l2 : σ2.length = σ.length := by rw [p.len, wipe_length]
  apply List.ext_getElem?
  intro i
  by_cases hi : i < σ.length
  · by_cases hv : i ∈ vs
    · rw [wipe_in hv (by omega), wipe_in hv hi]
    · rw [wipe_get hv]
      exact p.at_ i (List.mem_filter.mpr ⟨List.mem_range.mpr (by omega), by simpa using hv⟩)
  · rw [List.getElem?_eq_none (by rw [wipe_length]; omega), List.getElem?_eq_none (by rw [wipe_length]; omega)]
theorem but_not {n : Nat} {vs : List Nat} {i : Nat} (h : vs.contains i = true) : i ∉ but n vs := fun q => by
  have := (List.mem_filter.mp q).2
  rw [h] at this; cases this
theorem FinE.step {c : VC} {W : WX} {M P Z Z' H H' : Hp} {σ : St} {w w' : List Addr} {Q : VK} {x : R Ent} (z : Ext Z Z') (n : ZN P Z Z') (hf : FinE c W false M P Z H σ w Q x) : FinE c W false M P Z' H' σ w' Q x := by
  cases x with
  | fail => exact hf
  | err C d ρ2 => exact fun x vd H2 Z2 w2 z2 n2 => hf x vd H2 Z2 w2 (z.trans z2) (n.trans n2)
  | ok k2 ρ2 => exact fun v H2 Z2 fp w2 z2 n2 b2 ev s2 ro2 => hf v H2 Z2 fp w2 (z.trans z2) (n.trans n2) b2 ev s2 fun q => nomatch q
theorem SV.lc_core {c : VC} {W : WX} {wi : TI} {g : TG} {tt : TT} {te : TE} {vs : List Nat} {mi : List Ent → R (List T)} {mg : T → List Ent → Option (List Ent)} {mt : List Ent → R Bool} {me : List Ent → R Ent} {r1 r2 : Bool}
    {M P Z H : Hp} {σ : St} {ρ : List Ent} {w : List Addr} {Q : VK} (hi : SIp c W M P Z H σ wi (mi ρ)) (hg : ∀ n σ0, SG ⟨c, but n vs, σ0⟩ g mg) (ht : ST c noW r1 tt mt) (he : SV c noW r2 te me) (mp : Ext M P) (hf : FinE c W false M P Z H σ w Q (mLc vs mi mg mt me ρ)) : tLc wi g tt te vs σ H Q := by
  unfold tLc
  refine hi _ ?_
  unfold mLc at hf
  cases e : mi ρ with
  | fail => rw [e] at hf; exact hf
  | err C d ρ' => rw [e] at hf; exact hf
  | ok ts ρ1 =>
    rw [e] at hf
    dsimp only [R.bind] at hf
    intro J H1 Z1 w1 z1 n1 b1 s1 hJ D hD
    refine lc_it hJ (fun i H => ∃ Z2 w2 ρ2 acc ta, Ext Z1 Z2 ∧ Base P Z2 H (D :: w2) ∧ H D = some (.lst acc) ∧ OwA c.ca H Z2 acc ta [] ∧ Slots c.ca H M Z2 (L2.wipe σ vs) (wipeE ρ2 vs) w2 ∧ FinE c W false M P Z2 H σ w Q (lcM vs mg mt me (ts.drop i) ta (wipeE ρ2 vs))) ?_ ?_ ?_ ?_
    · obtain ⟨w2, hc, s2⟩ := s1.wipe vs
      refine ⟨Z1, w2, ρ1, [], [], Ext.refl _, (b1.new hD).cnt fun x => by have := hc x; rw [cnt_cons, cnt_cons (a := w1)]; omega, upd_same, .nil, s2.mono (Ext.refl _) fun a _ o y => Ext.new hD a o y, FinE.step z1 n1 hf⟩
    · rintro i H2 _ ⟨Z2, w2, ρ2, acc, ta, z2, b2, _⟩
      exact ⟨fun a o q => b2.z a o (z2 a o q), b2.m⟩
    · rintro i x H2 H3 hi2 ⟨Z2, w2, ρ2, acc, ta, z2, b2, hD2, A2, s2, f2⟩ y
      obtain ⟨t, Z3, et, z3, n3, b3, o3, x3⟩ := turn_in b2 (y.mono z2)
      rw [drop_cons et] at f2
      unfold lcM at f2
      have s3 := s2.mono z3 fun a _ o y => x3 a o y
      have b3' : Base P Z3 H3 ([D] ++ w2) := b3
      have mp' := mp.trans b3'.le
      refine (hg σ.length (L2.wipe σ vs)).go M (Rm.out w2 H3) Z3 H3 (L2.wipe σ vs) (wipeE ρ2 vs) w2 x t _ b3'.out o3 s3 ⟨fun _ _ => rfl, rfl⟩ ?_
      cases eg : mg t (wipeE ρ2 vs) with
      | none => rw [eg] at f2; exact f2.elim
      | some ρ4 =>
      rw [eg] at f2
      dsimp only at f2
      intro σ4 w4 b4 s4 pn4
      have ew : L2.wipe σ4 vs = L2.wipe σ vs := wipe_eq rfl pn4
      refine ⟨ew, ht.go M (Rm.out w2 H3) Z3 H3 σ4 ρ4 w4 _ mp' b4 s4 ?_⟩
      cases em : mt ρ4 with
      | fail => rw [em] at f2; exact f2.elim
      | err C d ρ5 => rw [em] at f2; exact f2.elim
      | ok k ρ5 =>
      rw [em] at f2
      intro H5 Z5 w5 z5 n5 b5 s5 ro5
      have b5' := Base.join (fp := [D]) (f := []) b3' b5 n5
      have hD5 : H5 D = some (.lst acc) := b5.m D _ (b3'.keep D List.mem_cons_self _ (x3 _ _ hD2))
      have nn5 : ZN P Z2 Z5 := n3.trans (n5.of b3'.le)
      cases k with
      | false =>
        rw [if_neg (by decide)]
        dsimp only at f2
        obtain ⟨w6, hc, s6⟩ := s5.wipe vs
        rw [ew] at s6
        refine ⟨Z5, w6, ρ5, acc, ta, (z2.trans z3).trans z5, b5'.cnt fun x => ?_, hD5, A2.mono (z3.trans z5) (fun a q => absurd q List.not_mem_nil), s6, FinE.step (z3.trans z5) nn5 f2⟩
        have := hc x
        rw [cnt_cons]; simp only [cnt_app, cnt_nil]; omega
      | true =>
        rw [if_pos rfl]
        dsimp only at f2
        refine he.go M (Rm.out w2 H3) Z5 H5 σ4 ρ5 w5 _ mp' b5 s5 ?_
        cases ee : me ρ5 with
        | fail => rw [ee] at f2; exact f2.elim
        | err C d ρ6 => rw [ee] at f2; exact f2.elim
        | ok en ρ6 =>
        rw [ee] at f2
        dsimp only at f2
        intro v H6 Z6 fp w6 z6 n6 b6 ev s6 _
        cases eu : en.fz with
        | none => rw [eu] at f2; exact f2.elim
        | some u =>
        rw [eu] at f2
        dsimp only at f2
        split at f2
        rotate_left
        · exact f2.elim
        rename_i hz
        have o := ev.fz (Z' := fzZ fp H6 Z6) (fzZ_ext b6) (fun a y => fzZ_in a y) eu
        have b7 := b6.fz
        have z7 := z6.trans (fzZ_ext b6)
        have n7 := n6.trans (fzZ_zn b6)
        have hD6 : H6 D = some (.lst acc) := b7.m D _ (b3'.keep D List.mem_cons_self _ (x3 _ _ hD2))
        have b7' := Base.join (fp := [D]) (f := []) b3' b7 (n5.trans n7)
        have s7 := s6.mono (H' := H6) (fzZ_ext b6) (fun _ _ _ y => y)
        obtain ⟨w8, hc, s8⟩ := s7.wipe vs
        rw [ew] at s8
        have A7 : OwA c.ca H6 (fzZ fp H6 Z6) acc ta [] := A2.mono ((z3.trans z5).trans z7) (fun a q => absurd q List.not_mem_nil)
        have b8 : Base P (fzZ fp H6 Z6) H6 (D :: w8) := b7'.cnt fun x => by have := hc x; rw [cnt_cons]; simp only [cnt_app, cnt_nil]; omega
        refine ⟨acc, hD6, by have := A2.length; omega, fzZ fp H6 Z6, w8, ρ6, acc ++ [v], ta ++ [u], ((z2.trans z3).trans z5).trans z7, b8.put List.mem_cons_self, upd_same, (A7.app (.cons (f := []) (g := []) o .nil)).any, s8.mono (Ext.refl _) fun a q o' y => ?_, FinE.step ((z3.trans z5).trans z7) (nn5.trans (n7.of b3'.le)) f2⟩
        have : a ≠ D := fun e => (List.nodup_cons.mp b8.nd).1 (e ▸ q)
        rw [upd_ne this]; exact y
    · rintro H2 ⟨Z2, w2, ρ2, acc, ta, z2, b2, hD2, A2, s2, f2⟩
      rw [List.drop_length] at f2
      refine f2 (.ref D) H2 Z2 [D] w2 (Ext.refl _) ZN.refl b2 (.own (.lstO hD2 A2)) (s2.where_ (by rw [wipe_length]) fun i q => ?_) fun q => nomatch q
      by_cases hv : i ∈ vs
      · by_cases hl : i < (wipeE ρ2 vs).length
        · rw [wipeE_length] at hl
          exact absurd (wipeE_get hv hl) q
        · have h1 := s2.length
          rw [wipe_length] at h1
          rw [List.getElem?_eq_none (by omega), List.getElem?_eq_none (by rw [wipe_length]; omega)]
      · exact (wipe_get hv).symm
theorem SV.lc {c : VC} {W : WX} {wi : TI} {g : TG} {tt : TT} {te : TE} {vs : List Nat} {mi : List Ent → R (List T)} {mg : T → List Ent → Option (List Ent)} {mt : List Ent → R Bool} {me : List Ent → R Ent} {r1 r2 : Bool}
    (hi : SI c W wi mi) (hg : ∀ n σ0, SG ⟨c, but n vs, σ0⟩ g mg) (ht : ST c noW r1 tt mt) (he : SV c noW r2 te me) : SV c W false (tLc wi g tt te vs) (mLc vs mi mg mt me) :=
  ⟨fun M P Z H σ ρ w Q mp b s hf => SV.lc_core (fun Q h => hi.go M P Z H σ ρ w Q mp b s h) hg ht he mp hf⟩
theorem st_yes {c : VC} {W : WX} : ST c W true tYes (mPure true) := ⟨fun M P Z H σ ρ w Q mp b s h => h H Z w (Ext.refl _) ZN.refl b s fun _ => ⟨Ext.refl _, rfl⟩⟩
end
end Rm
/-! Rm, part VD: more rules. -/
namespace Rm
open PySem PySem.Spec L2
open PyProof.Rows hiding St
variable [Tb]
section
variable {c : VC} {W : WX} {r r1 r2 : Bool} {t t1 t2 to te : TE} {ta : TA} {m m1 m2 : List Ent → R Ent} {ms : List Ent → R (List Ent)}
theorem SV.tup (h : SA c W r ta ms) : SV c W r (tTup ta) (mSeq true ms) := SA.seq true h
theorem SV.cb {rd : List V → Hp → VK → Prop} {p : List T → Option Ent} (pr : Prim c.ca rd p) (h : SA c W r ta ms) : SV c W r (tCB rd ta) (mPrim p ms) := SA.prim pr h
/-- a list's own items are kept -/
def keepAll : List Ent → Option (List T)
  | [] => some []
  | e :: es => match e.keep, keepAll es with
    | some t, some ts => some (t :: ts)
    | _, _ => none
theorem EntVs.keep {ca : Ks} {H Z : Hp} : ∀ {vs : List V} {es : List Ent} {fp : List Addr} {ts : List T}, EntVs ca H Z vs es fp → keepAll es = some ts → OwA ca H Z vs ts fp
  | _, _, _, _, .nil, h => by cases h; exact .nil
  | _, _, _, _, .cons ev A, h => by
    unfold keepAll at h
    split at h
    · rename_i t as q1 q2
      cases h
      exact .cons (ev.keep q1) (EntVs.keep A q2)
    · cases h
def mLst (ms : List Ent → R (List Ent)) : List Ent → R Ent := fun ρ => (ms ρ).bind fun es ρ' => match keepAll es with
  | some ts => if ts.length ≤ sizeLine then .ok (.own (.lst true ts)) ρ' else .fail
  | none => .fail
theorem SV.lst (h : SA c W r ta ms) : SV c W r (tLst ta) (mLst ms) := by
  refine ⟨fun M P Z H σ ρ w Q mp b s hf => ?_⟩
  unfold tLst
  refine h.go M P Z H σ ρ w _ mp b s ?_
  unfold mLst at hf
  cases e : ms ρ with
  | fail => rw [e] at hf; exact hf
  | err C d ρ' => rw [e] at hf; exact hf
  | ok es ρ' =>
    rw [e] at hf
    dsimp only [R.bind] at hf
    intro vs H1 Z1 fp w1 z1 n1 b1 ev s1 ro
    split at hf
    rotate_left
    · exact hf.elim
    rename_i ts q
    have A := ev.keep q
    have hl := A.length
    split at hf
    rotate_left
    · exact hf.elim
    rename_i hz
    refine ⟨by omega, fun p hp => ?_⟩
    have x : Ext H1 (upd H1 p (.lst vs)) := Ext.new hp
    exact hf (.ref p) _ Z1 (p :: fp) w1 z1 n1 (b1.new hp) (.own (.lstO upd_same (A.mono (Ext.refl _) fun a _ o y => x a o y))) (s1.mono (Ext.refl _) fun a _ o y => x a o y) fun q => ⟨(ro q).1.trans x, (ro q).2⟩
/-! ### sorted, list of a dict -/
def keyT : Key → T
  | .inl i => .int i
  | .inr x => .str x
end
/-! ### statements -/
section
variable {F : FC} {W : WX} {r : Bool} {te to ti : TE} {ta : TA} {i j : Nat} {mp : List Ent → R (T × (T → T))} {me mi : List Ent → R Ent} {ms : List Ent → R (List Ent)}
def mPar (i j : Nat) (ms : List Ent → R (List Ent)) : List Ent → O := fun ρ => (ms ρ).then fun es ρ1 => match es.map Ent.keep with
  | [some t, some u] => if i < ρ1.length ∧ j < ρ1.length then .nx ((ρ1.set i (.own t)).set j (.own u)) else .fail
  | _ => .fail
theorem SS.par (hi : i ∉ F.pin) (hj : j ∉ F.pin) (h : SA F.c W r ta ms) : SS F W (tPar i j ta) (mPar i j ms) := by
  refine ⟨fun M P Z H σ ρ w D mp b s pn hf => ?_⟩
  unfold tPar
  refine h.go M P Z H σ ρ w _ mp b s ?_
  unfold mPar at hf
  cases e : ms ρ with
  | fail => rw [e] at hf; exact hf
  | err C d ρ' => rw [e] at hf; exact fin_err pn hf
  | ok es ρ1 =>
    rw [e] at hf
    dsimp only [R.then] at hf
    intro vs H1 Z1 fp w1 z1 n1 b1 ev s1 ro
    cases ev with
    | nil => exact hf.elim
    | cons ev1 A =>
    cases A with
    | nil => dsimp only [List.map] at hf; split at hf <;> first | exact hf.elim | (rename_i q; simp at q)
    | cons ev2 A =>
    cases A with
    | cons ev3 A => dsimp only [List.map] at hf; split at hf <;> first | exact hf.elim | (rename_i q; simp at q)
    | nil =>
    rename_i v1 e1 f1 v2 e2 f2
    dsimp only [List.map] at hf
    split at hf
    rotate_left
    · exact hf.elim
    rename_i t u q
    injection q with q1 q2
    injection q2 with q2 _
    split at hf
    rotate_left
    · exact hf.elim
    rename_i hl
    refine ⟨v1, v2, rfl, ?_⟩
    rw [List.append_nil] at b1
    have b1' : Base P Z1 H1 (f1 ++ (f2 ++ w1)) := by rw [← List.append_assoc]; exact b1
    have b2 : Base P Z1 H1 (f2 ++ w1) := b1'.drop
    obtain ⟨x, l, f, rr, x1, x2, sl, kk⟩ := s1.split (List.getElem?_eq_getElem hl.1)
    have s2 := kk (x' := some v1) (fun _ _ _ q => q) (Ext.refl _) (.own (ev1.keep q1))
    obtain ⟨x', l', f', rr', x1', x2', sl', kk'⟩ := s2.split (List.getElem?_eq_getElem (by rw [List.length_set]; exact hl.2) : (ρ1.set i (.own t))[j]? = _)
    have s3 := kk' (x' := some v2) (fun _ _ _ q => q) (Ext.refl _) (.own (ev2.keep q2))
    refine hf _ H1 Z1 _ z1 n1 (b1'.cnt fun y => ?_) s3 ((pn.set hi).set hj)
    have h1 := congrArg (cnt y) x2
    have h2 := congrArg (cnt y) x2'
    simp only [cnt_app] at h1 h2 ⊢
    omega
theorem OwP.drop {ca : Ks} {H Z : Hp} {k : Key} : ∀ {ks : List (Key × V)} {ps : List (Key × T)} {f : List Addr}, ks.map (·.1) = ps.map (·.1) → OwA ca H Z (ks.map (·.2)) (ps.map (·.2)) f → ∃ f', (∀ x, cnt x f' ≤ cnt x f) ∧ OwA ca H Z ((dropT ks k).map (·.2)) ((dropT ps k).map (·.2)) f'
  | [], [], _, _, A => ⟨_, fun _ => Nat.le_refl _, A⟩
  | [], _ :: _, _, e, _ => nomatch e
  | _ :: _, [], _, e, _ => nomatch e
  | a :: ks, b :: ps, _, e, A => by
    simp only [List.map_cons, List.cons.injEq] at e
    simp only [List.map_cons] at A
    cases A with
    | @cons _ _ _ _ f1 g1 h A =>
      obtain ⟨f', hc, A'⟩ := OwP.drop e.2 A
      by_cases q : b.1 = k
      · refine ⟨f', fun x => by have := hc x; simp only [cnt_app]; omega, ?_⟩
        simp only [dropT, List.filter_cons, e.1, q, ne_eq, not_true_eq_false, decide_false, Bool.false_eq_true, if_false] at A' ⊢
        exact A'
      · refine ⟨f1 ++ f', fun x => by have := hc x; simp only [cnt_app]; omega, ?_⟩
        simp only [dropT, List.filter_cons, e.1, q, ne_eq, not_false_eq_true, decide_true, if_true, List.map_cons] at A' ⊢
        exact .cons h A'
def mDDel (i : Nat) (mp : List Ent → R (T × (T → T))) (mi : List Ent → R Ent) : List Ent → O := fun ρ => (mp ρ).then fun uk ρ1 => (mi ρ1).then fun e _ => match uk.1, e.t.key with
  | .dct true ps, some k => if (getK ps k).isSome = true then .nx (ρ1.set i (.own (uk.2 (.dct true (dropT ps k))))) else .fail
  | _, _ => .fail
end
end Rm
/-! Rm, part VE: dict displays, own dunders, names bound in parallel. -/
namespace Rm
open PySem PySem.Spec L2
open PyProof.Rows hiding St
variable [Tb]
section
variable {c : VC} {W : WX} {r r1 r2 : Bool} {t t1 t2 to te : TE} {ta : TA} {m m1 m2 : List Ent → R Ent} {ms : List Ent → R (List Ent)}
/-! ### a call within an operation -/
def argT (t : T) : Ent := (Ent.vw t).arg
theorem OwVs.args {ca : Ks} {H M Z : Hp} (x : Ext H M) : ∀ {vs : List V} {ts : List T}, OwVs ca H Z vs ts → Slots ca H M Z (vs.map some) (ts.map argT) []
  | _, _, .nil => .nil
  | _, _, .cons h A => .cons (f := []) (g := []) (EntV.arg x (.vw h)) (OwVs.args x A)
theorem OwVs.toB {H Z : Hp} : ∀ {vs : List V} {ts : List T}, OwVs c.ca H Z vs ts → OwVs c.base.ca H Z vs ts
  | _, _, .nil => .nil
  | _, _, .cons h A => .cons h.toB (OwVs.toB A)
theorem OwVs.length {ca : Ks} {H Z : Hp} : ∀ {vs : List V} {ts : List T}, OwVs ca H Z vs ts → vs.length = ts.length
  | _, _, .nil => rfl
  | _, _, .cons _ A => congrArg (· + 1) (OwVs.length A)
/-! ### a sign in a text -/
def pInT : List T → Option Ent := fun ts => match ts with
  | [.str a, .str z] => (match a.cps.toList with
    | [k] => oB (decide (k ∈ z.cps.toList))
    | _ => none)
  | _ => none
theorem pr_inT {ca : Ks} : Prim ca (r2L rInT) pInT := ⟨fun P Z H w vs ts Q b o h => by
  unfold pInT at h
  split at h
  · obtain ⟨x, g, y, f, rfl, h1, h2⟩ := o.i2
    obtain rfl := ow_str h1; obtain rfl := ow_str h2
    split at h
    · rename_i k ek
      simp only [r2L, rInT, ek]
      exact h.now b (.own (.bl _))
    · exact h.elim
  · exact h.elim⟩
/-! ### dict displays -/
inductive PairVs (ca : Ks) (H Z : Hp) : List (V × V) → List (Key × Ent) → List Addr → Prop
  | nil : PairVs ca H Z [] [] []
  | cons {k : Key} {v : V} {e : Ent} {f g : List Addr} {ps : List (V × V)} {es : List (Key × Ent)} : EntV ca H Z v e f → PairVs ca H Z ps es g → PairVs ca H Z ((kV k, v) :: ps) ((k, e) :: es) (f ++ g)
structure SD (c : VC) (W : WX) (trs : List (TE × TE)) (m : List Ent → R (List (Key × Ent))) : Prop where
  go : ∀ (M P Z H : Hp) (σ : St) (ρ : List Ent) (w : List Addr) (Q : List (V × V) → Hp → Prop), Ext M P → Base P Z H w → Slots c.ca H M Z σ ρ w → (match m ρ with
    | .ok es ρ' => ∀ ps H' Z' fp w', Ext Z Z' → ZN P Z Z' → Base P Z' H' (fp ++ w') → PairVs c.ca H' Z' ps es fp → Slots c.ca H' M Z' σ ρ' w' → Q ps H'
    | .err C d ρ' => ∀ x vd H' Z' w', Ext Z Z' → ZN P Z Z' → Base P Z' H' w' → Z' x = some (.xd [(c.ef C, vd)]) → Ow c.ca H' Z' vd d [] → Slots c.ca H' M Z' σ ρ' w' → W (.ref (c.ca.cl C)) (some x) σ H'
    | .fail => False) → tPairs trs σ H Q
def mDNil : List Ent → R (List (Key × Ent)) := fun ρ => .ok [] ρ
def mDCons (mk mv : List Ent → R Ent) (mr : List Ent → R (List (Key × Ent))) : List Ent → R (List (Key × Ent)) := fun ρ => (mk ρ).bind fun ek ρ1 => match ek.t.key with
  | some k => (mv ρ1).bind fun e ρ2 => if e.held = true then (mr ρ2).bind fun es ρ3 => .ok ((k, e) :: es) ρ3 else .fail
  | none => .fail
theorem SD.nil : SD c W [] mDNil := ⟨fun M P Z H σ ρ w Q mp b s h => h [] H Z [] w (Ext.refl _) ZN.refl b .nil s⟩
theorem SD.cons {trs : List (TE × TE)} {mr : List Ent → R (List (Key × Ent))} (h1 : SV c W r1 t1 m1) (h2 : SV c W r2 t2 m2) (h3 : SD c W trs mr) : SD c W ((t1, t2) :: trs) (mDCons m1 m2 mr) := by
  refine ⟨fun M P Z H σ ρ w Q mp b s h => ?_⟩
  unfold tPairs
  refine h1.go M P Z H σ ρ w _ mp b s ?_
  unfold mDCons at h
  cases e1 : m1 ρ with
  | fail => rw [e1] at h; exact h
  | err C d ρ1 => rw [e1] at h; exact h
  | ok ek ρ1 =>
    rw [e1] at h
    dsimp only [R.bind] at h
    intro kv H1 Z1 fk w1 z1 n1 b1 evk s1 ro1
    obtain ⟨gk, ok⟩ := evk.ow
    cases eq : ek.t.key with
    | none => rw [eq] at h; exact h.elim
    | some k =>
    rw [eq] at h
    dsimp only at h
    obtain ⟨_, rfl⟩ := ow_key ok eq
    refine h2.go M P Z1 H1 σ ρ1 w1 _ mp b1.drop s1 ?_
    cases e2 : m2 ρ1 with
    | fail => rw [e2] at h; exact h
    | err C d ρ2 => rw [e2] at h; exact fun x vd H2 Z2 w2 z2 n2 => h x vd H2 Z2 w2 (z1.trans z2) (n1.trans n2)
    | ok e ρ2 =>
    rw [e2] at h
    dsimp only at h
    intro v H2 Z2 fp w2 z2 n2 b2 ev s2 ro2
    by_cases hh : e.held = true
    rotate_left
    · rw [if_neg hh] at h; exact h.elim
    rw [if_pos hh] at h
    refine h3.go M (Rm.out w2 H2) Z2 H2 σ ρ2 w2 _ (mp.trans b2.le) b2.out s2 ?_
    cases e3 : mr ρ2 with
    | fail => rw [e3] at h; exact h
    | err C d ρ3 =>
      rw [e3] at h
      intro x vd H3 Z3 w3 z3 n3 b3 hx ov s3
      exact h x vd H3 Z3 w3 ((z1.trans z2).trans z3) ((n1.trans n2).trans (n3.of b2.le)) (b3.less b2.le) hx ov s3
    | ok es ρ3 =>
    rw [e3] at h
    dsimp only at h ⊢
    intro ps H3 Z3 fp3 w3 z3 n3 b3 pv s3
    have kf : ∀ a ∈ fp, ∀ o, H2 a = some o → H3 a = some o := fun a q o y => b3.m a o (b2.keep a q o y)
    refine h ((kV k, v) :: ps) H3 Z3 (fp ++ fp3) w3 ((z1.trans z2).trans z3) ((n1.trans n2).trans (n3.of b2.le)) (Base.join b2 b3 n3) (.cons (ev.mono z3 kf fun ⟨t, q, y⟩ => ?_) pv) s3
    rw [q] at hh
    simp only [Ent.held] at hh
    rw [y] at hh; cases hh
def keepP : List (Key × Ent) → Option (List (Key × T))
  | [] => some []
  | (k, e) :: es => match e.keep, keepP es with
    | some t, some ts => some ((k, t) :: ts)
    | _, _ => none
def mDisp (mr : List Ent → R (List (Key × Ent))) : List Ent → R Ent := fun ρ => (mr ρ).bind fun es ρ' => match keepP es with
  | some ps => if (ps.map (·.1)).Nodup ∧ ps.length ≤ 15 then .ok (.own (.dct true ps)) ρ' else .fail
  | none => .fail
theorem PairVs.keep {ca : Ks} {H Z : Hp} : ∀ {ps : List (V × V)} {es : List (Key × Ent)} {fp : List Addr} {ts : List (Key × T)}, PairVs ca H Z ps es fp → keepP es = some ts →
    ∃ kvs : List (Key × V), ps = kvs.map (fun kv => (kV kv.1, kv.2)) ∧ kvs.map (·.1) = ts.map (·.1) ∧ OwA ca H Z (kvs.map (·.2)) (ts.map (·.2)) fp
  | _, _, _, _, .nil, h => by cases h; exact ⟨[], rfl, rfl, .nil⟩
  | _, _, _, _, .cons (k := k) (v := v) ev A, h => by
    unfold keepP at h
    split at h
    · rename_i t ts q1 q2
      cases h
      obtain ⟨kvs, e1, e2, e3⟩ := PairVs.keep A q2
      refine ⟨(k, v) :: kvs, by rw [e1]; rfl, by simp only [List.map_cons, e2], ?_⟩
      simp only [List.map_cons]
      exact .cons (ev.keep q1) e3
    · cases h
theorem putT_not {κ α : Type} [DecidableEq κ] {ks : List (κ × α)} {k : κ} {v : α} (h : k ∉ ks.map (·.1)) : putT ks k v = ks ++ [(k, v)] := by
  induction ks with
  | nil => rfl
  | cons p r ih =>
    simp only [List.map_cons, List.mem_cons, not_or] at h
    obtain ⟨k', x⟩ := p
    have h1 : ¬ k' = k := fun e => h.1 e.symm
    simp only [putT, if_neg h1, ih h.2, List.cons_append]
theorem mergeK_nd : ∀ {more acc : List (Key × V)}, ((acc ++ more).map (·.1)).Nodup → mergeK acc more = acc ++ more
  | [], acc, _ => by simp [mergeK]
  | kv :: more, acc, n => by
    have h1 : kv.1 ∉ acc.map (·.1) := fun q => by
      rw [List.map_append, List.nodup_append] at n
      exact n.2.2 _ q _ (by simp) rfl
    have n0 : (acc.map (·.1)).Nodup := by rw [List.map_append, List.nodup_append] at n; exact n.1
    have : mergeK acc (kv :: more) = mergeK (putK acc kv.1 kv.2) more := rfl
    rw [this, putK_putT n0, putT_not h1, mergeK_nd (by simpa using n)]
    simp
theorem SV.disp {trs : List (TE × TE)} {mr : List Ent → R (List (Key × Ent))} (h : SD c W trs mr) : SV c W false (tDisp trs) (mDisp mr) := by
  refine ⟨fun M P Z H σ ρ w Q mp b s hf => ?_⟩
  intro p hp
  have x1 : Ext H (upd H p (.dK [])) := Ext.new hp
  have b0 : Base P Z (upd H p (.dK [])) ([p] ++ w) := b.new hp
  have s0 := s.mono (H' := upd H p (.dK [])) (Ext.refl _) fun a _ o y => x1 a o y
  refine h.go M (Rm.out w (upd H p (.dK []))) Z _ σ ρ w _ (mp.trans b0.le) b0.out s0 ?_
  unfold mDisp at hf
  cases e : mr ρ with
  | fail => rw [e] at hf; exact hf
  | err C d ρ' =>
    rw [e] at hf
    exact fun x vd H' Z' w' z n b' => hf x vd H' Z' w' z (n.of b0.le) (b'.less b0.le)
  | ok es ρ' =>
    rw [e] at hf
    dsimp only [R.bind] at hf
    intro ps H2 Z2 fp w2 z2 n2 b2 pv s2
    split at hf
    rotate_left
    · exact hf.elim
    rename_i ts q
    split at hf
    rotate_left
    · exact hf.elim
    rename_i hq
    obtain ⟨kvs, rfl, ek, A⟩ := pv.keep q
    have hp2 : H2 p = some (.dK []) := b2.m p _ (b0.keep p List.mem_cons_self _ upd_same)
    have bj := Base.join b0 b2 n2
    have hl : kvs.length = ts.length := by have := congrArg List.length ek; simpa using this
    refine ⟨hp2, kvs, rfl, by omega, ?_⟩
    rw [mergeK_nd (by rw [List.nil_append, ek]; exact hq.1), List.nil_append]
    have nd := bj.nd
    have off : ∀ a, a ∈ fp ∨ a ∈ w2 → a ≠ p := fun a h e => by
      subst e
      have := nd_cnt.mp nd a
      simp only [cnt_app] at this
      have h1 : cnt a [a] = 1 := by simp [cnt]
      rcases h with h | h
      · have := cnt_mem.mp h; omega
      · have := cnt_mem.mp h; omega
    refine hf (.ref p) _ Z2 (p :: fp) w2 z2 (n2.of b0.le) (bj.put (by simp)) (.own (.dctO (rdo_of upd_same fun _ _ z => nomatch z) ek (A.mono (Ext.refl _) fun a q o y => ?_) hq.1)) (s2.mono (Ext.refl _) fun a q o y => ?_) fun q => nomatch q
    · rw [upd_ne (off a (Or.inl q))]; exact y
    · rw [upd_ne (off a (Or.inr q))]; exact y
end
/-! ### a, b, .. = x, y, .. -/
def gNs : List Nat → TGs
  | [] => gNil
  | i :: is => gCons (gName i) (gNs is)
structure SN (F : FC) (is : List Nat) (gs : TGs) : Prop where
  e : gs = gNs is
  n : ∀ i ∈ is, i ∉ F.pin
def setN : List Nat → List Ent → List Ent → Option (List Ent)
  | [], [], ρ => some ρ
  | i :: is, e :: es, ρ => match e.keep with
    | some t => if i < ρ.length then setN is es (ρ.set i (.own t)) else none
    | none => none
  | _, _, _ => none
def mParN (is : List Nat) (ms : List Ent → R (List Ent)) : List Ent → O := fun ρ => (ms ρ).then fun es ρ1 => if es.length ≤ sizeLine then (match setN is es ρ1 with
  | some ρ2 => .nx ρ2
  | none => .fail) else .fail
section
variable {F : FC} {W : WX} {r : Bool} {ta : TA} {ms : List Ent → R (List Ent)} {is : List Nat} {gs : TGs}
theorem SN.nil : SN F [] gNil := ⟨rfl, (fun _ q => nomatch q)⟩
theorem SN.cons (i : Nat) (h : i ∉ F.pin) (s : SN F is gs) : SN F (i :: is) (gCons (gName i) gs) := ⟨by rw [s.e]; rfl, fun j q => (List.mem_cons.mp q).elim (fun e => e ▸ h) (s.n j)⟩
end
end Rm
/-! Rm, part VF: try .. except .. as e; d.pop(k). -/
namespace Rm
open PySem PySem.Spec L2
open PyProof.Rows hiding St
variable [Tb]
def Ent.clean : Ent → Ent
  | .exc _ _ => .no
  | e => e
section
variable {ca ca' : Ks} {M Z H : Hp}
theorem Slots.clean (e : ca.cl = ca'.cl) : ∀ {σ : St} {ρ : List Ent} {w : List Addr}, Slots ca H M Z σ ρ w → Slots ca' H M Z σ (ρ.map Ent.clean) w
  | _, _, _, .nil => .nil
  | _, _, _, .cons a s => .cons (match a with
    | .no => .no
    | .own o => .own (o.re e)
    | .vw o => .vw (o.re e)
    | .exc _ _ _ => .no) (Slots.clean e s)
theorem Slots.re (e : ca.cl = ca'.cl) (h : ∀ x, ca.xo x = none) : ∀ {σ : St} {ρ : List Ent} {w : List Addr}, Slots ca H M Z σ ρ w → Slots ca' H M Z σ ρ w
  | _, _, _, .nil => .nil
  | _, _, _, .cons a s => .cons (match a with
    | .no => .no
    | .own o => .own (o.re e)
    | .vw o => .vw (o.re e)
    | .exc x _ _ => by rw [h] at x; cases x) (Slots.re e h s)
end
/-- where e is at hand -/
abbrev VC.exc (c : VC) (a dd : Addr) : VC := ⟨⟨c.ca.cl, fun x => if x = a then some dd else none⟩, c.ef⟩
def mExc (n : Str) (i : Nat) : List Ent → R Ent := fun ρ => match ρ[i]? with
  | some (.exc f t) => if f = n then .ok (.own t) ρ else .fail
  | _ => .fail
theorem sv_xf {c : VC} {W : WX} {a dd : Addr} {C n : Str} {i : Nat} : SV (c.exc a dd) W true (tXf a (.ref (c.ca.cl C)) (some dd) (c.ca.cl C) n (tV i)) (mExc n i) := by
  refine ⟨fun M P Z H σ ρ w Q mp b s hf => ?_⟩
  unfold mExc at hf
  split at hf
  rotate_left
  · exact hf.elim
  rename_i f t e
  split at hf
  rotate_left
  · exact hf.elim
  rename_i q
  subst q
  obtain ⟨x, l, fp, r, e1, e2, sl, _⟩ := s.split e
  cases sl with
  | @exc a' dd' vd _ _ ex ez o =>
    have ha : a' = a ∧ dd' = dd := by
      dsimp only at ex
      split at ex
      · rename_i q
        cases ex
        exact ⟨q, rfl⟩
      · cases ex
    obtain ⟨rfl, rfl⟩ := ha
    unfold tXf tV
    rw [e1]
    refine ⟨rfl, rfl, dd', [(f, vd)], vd, rfl, b.z _ _ ez, lk_hd, ?_⟩
    exact hf vd H Z [] w (Ext.refl _) ZN.refl b (.own o.any) s fun _ => ⟨Ext.refl _, rfl⟩
/-- behind the handler -/
def O.out (i : Nat) : O → O
  | .nx ρ => .nx ((ρ.map Ent.clean).set i .no)
  | .bk ρ => .bk ((ρ.map Ent.clean).set i .no)
  | .ct ρ => .ct ((ρ.map Ent.clean).set i .no)
  | .rt e ρ => .rt e ((ρ.map Ent.clean).set i .no)
  | _ => .fail
def mTryAs (i : Nat) (C f : Str) (xs : List Str) (mb mh : List Ent → O) : List Ent → O := fun ρ => match mb ρ with
  | .err C' d ρ' => if C' = C then (if i < ρ'.length then O.out i (mh (ρ'.set i (.exc f d))) else .fail) else if xs.contains C' = true then .err C' d ρ' else .fail
  | o => o
theorem SS.tryAs {c : VC} {pin : List Nat} {σ0 : St} {W : WX} {K : PySem.W.Frag} {i : Nat} {C : Str} {xs : List Str} {tb : WX → TS} {ts : Addr → Value → Option Addr → TS} {mb mh : List Ent → O} {f : Str} (hi : i ∉ pin) (hf0 : c.ef C = f)
    (hx : PySem.W.exmOne K (.ref (c.ca.cl C)) (.ref (c.ca.cl C)) = some true) (hxs : ∀ C' ∈ xs, PySem.W.exmOne K (.ref (c.ca.cl C')) (.ref (c.ca.cl C)) = some false)
    (hb : ∀ W', SS ⟨c.base, pin, σ0⟩ W' (tb W') mb) (hh : ∀ a dd, SS ⟨c.exc a dd, pin, σ0⟩ noW (ts a (.ref (c.ca.cl C)) (some dd)) mh) :
    SS ⟨c.base, pin, σ0⟩ W (fun D σ H => tb (wAs K (.ref (c.ca.cl C)) i ts W D) D σ H) (mTryAs i C f xs mb mh) := by
  subst hf0
  refine ⟨fun M P Z H σ ρ w D mp b s pn hf => ?_⟩
  refine (hb _).go M P Z H σ ρ w D mp b s pn ?_
  unfold mTryAs at hf
  cases e : mb ρ with
  | nx ρ' => rw [e] at hf; exact hf
  | bk ρ' => rw [e] at hf; exact hf
  | ct ρ' => rw [e] at hf; exact hf
  | rt e' ρ' => rw [e] at hf; exact hf
  | fail => rw [e] at hf; exact hf
  | err C' d ρ' =>
    rw [e] at hf
    dsimp only at hf
    intro x vd σ' H' Z' w' z n b' hxd o s' pn'
    by_cases hC : C' = C
    · subst hC
      rw [if_pos rfl] at hf
      refine ⟨true, hx, fun _ a ha => ?_, fun q => nomatch q⟩
      by_cases hl : i < ρ'.length
      rotate_left
      · rw [if_neg hl] at hf; exact hf.elim
      rw [if_pos hl] at hf
      have s0 : Slots (c.exc a x).ca H' M Z' σ' ρ' w' := Slots.re (ca := c.base.ca) (ca' := (c.exc a x).ca) rfl (fun _ => rfl) s'
      obtain ⟨y, l, f, r, e1, e2, sl, kk⟩ := s0.split (List.getElem?_eq_getElem hl)
      have s1 := kk (x' := some (.ref a)) (f' := []) (fun _ _ _ q => q) (Ext.refl _) (.exc (f := c.ef C') (by simp) hxd (Ow.any (Ow.re (ca := c.base.ca) (ca' := (c.exc a x).ca) rfl o)))
      have b1 : Base P Z' H' (l ++ ([] ++ r)) := b'.cnt fun y => by rw [e2]; simp only [cnt_app, cnt_nil]; omega
      refine (hh a x).go M P Z' H' (σ'.set i (some (.ref a))) (ρ'.set i (.exc (c.ef C') d)) _ _ mp b1 s1 (pn'.set hi) ?_
      -- behind it
      have fin : ∀ {σ2 : St} {H2 Z2 : Hp} {ρ2 : List Ent} {w2 : List Addr}, Slots (c.exc a x).ca H2 M Z2 σ2 ρ2 w2 → ∃ w3, (∀ y, cnt y w3 ≤ cnt y w2) ∧ Slots c.base.ca H2 M Z2 (σ2.set i none) ((ρ2.map Ent.clean).set i .no) w3 := fun {σ2 H2 Z2 ρ2 w2} s2 => by
        have s3 : Slots c.base.ca H2 M Z2 σ2 (ρ2.map Ent.clean) w2 := Slots.clean (ca := (c.exc a x).ca) (ca' := c.base.ca) rfl s2
        cases eq : (ρ2.map Ent.clean)[i]? with
        | none =>
          have q1 := List.getElem?_eq_none_iff.mp (s3.non0 eq)
          have q2 := List.getElem?_eq_none_iff.mp eq
          rw [List.set_eq_of_length_le q1, List.set_eq_of_length_le q2]
          exact ⟨w2, fun _ => Nat.le_refl _, s3⟩
        | some en =>
          obtain ⟨y, l, f, r, e1, e2, sl, kk⟩ := s3.split eq
          exact ⟨_, fun y => by rw [e2]; simp only [cnt_app, cnt_nil]; omega, kk (x' := none) (f' := []) (fun _ _ _ q => q) (Ext.refl _) .no⟩
      have f2 := FinS.go z n hf
      cases em : mh (ρ'.set i (.exc (c.ef C') d)) with
      | fail => rw [em] at f2; exact f2
      | err C2 d2 ρ2 => rw [em] at f2; exact f2.elim
      | nx ρ2 =>
        rw [em] at f2
        intro σ2 H2 Z2 w2 z2 n2 b2 s2 pn2
        obtain ⟨w3, hc, s3⟩ := fin s2
        exact f2 (σ2.set i none) H2 Z2 w3 z2 n2 (b2.cnt hc) s3 (pn2.set hi)
      | bk ρ2 =>
        rw [em] at f2
        intro σ2 H2 Z2 w2 z2 n2 b2 s2 pn2
        obtain ⟨w3, hc, s3⟩ := fin s2
        exact f2 (σ2.set i none) H2 Z2 w3 z2 n2 (b2.cnt hc) s3 (pn2.set hi)
      | ct ρ2 =>
        rw [em] at f2
        intro σ2 H2 Z2 w2 z2 n2 b2 s2 pn2
        obtain ⟨w3, hc, s3⟩ := fin s2
        exact f2 (σ2.set i none) H2 Z2 w3 z2 n2 (b2.cnt hc) s3 (pn2.set hi)
      | rt e2 ρ2 =>
        rw [em] at f2
        intro v σ2 H2 Z2 fp w2 z2 n2 b2 ev s2 pn2
        obtain ⟨w3, hc, s3⟩ := fin s2
        exact f2 v (σ2.set i none) H2 Z2 fp w3 z2 n2 (b2.cnt fun y => by have := hc y; simp only [cnt_app]; omega) (EntV.re (ca := (c.exc a x).ca) (ca' := c.base.ca) rfl ev) s3 (pn2.set hi)
    · rw [if_neg hC] at hf
      by_cases hc : xs.contains C' = true
      · rw [if_pos hc] at hf
        refine ⟨false, hxs C' (by simpa using hc), (fun q => nomatch q), fun _ => ?_⟩
        exact hf x vd σ' H' Z' w' z n b' hxd o s' pn'
      · rw [if_neg hc] at hf
        exact hf.elim
/-! ### d.pop(k) -/
end Rm
/-! Rm, part VG: == with an empty dict; methods called by names. -/
namespace Rm
open PySem PySem.Spec L2
open PyProof.Rows hiding St
variable [Tb]
def rEqE : R2 := fun x y H Q => match x, y with
  | .ref a, .ref b => (match rdo H a, rdo H b with
    | some (.dK ka), some (.dK kb) => (ka = [] ∨ kb = []) ∧ Q (.bl (ka.length == kb.length)) H
    | _, _ => False)
  | _, _ => False
theorem opEqT {X : Cx} (hu : X.A.units + 64 < cLine) : OpR X (compareOp .Eq) (fun x y H Q => (rEqS false x y H Q ∨ rEqU x y H Q) ∨ rEqE x y H Q) := by
  intro pins s σ H x y v u Q I rx ry h
  rcases h with h | h
  · exact opEqS hu pins s σ H x y v u Q I rx ry h
  · unfold rEqE at h
    split at h
    · rename_i a b
      obtain rfl := (show v = Value.ref a from rx)
      obtain rfl := (show u = Value.ref b from ry)
      split at h
      · rename_i ka kb ea eb
        obtain ⟨_, sa, va, ra, da⟩ := dk_rd I.hok (rdo_rd ea)
        obtain ⟨_, sb, vb, rb, db⟩ := dk_rd I.hok (rdo_rd eb)
        have la : ka.length = va.length := Paired.length ra
        have lb : kb.length = vb.length := Paired.length rb
        refine PySem.W.rcP_dicts (r := true) sa sb da db (by omega) (fun e => ?_) _ _ ?_
        · have : va = [] := by
            rcases h.1 with q | q
            · subst q; exact List.length_eq_zero_iff.mp la.symm
            · subst q; exact List.length_eq_zero_iff.mp (by rw [e]; exact lb.symm)
          subst this
          exact .nil
        · rw [Bool.and_true, ← la, ← lb]
          exact ⟨.bl _, H, I, rfl, h.2⟩
      · exact h.elim
    · exact h.elim
def eqD (x y : T) : Option Bool := match x, y with
  | .dct _ ps, .dct _ qs => if (ps.isEmpty || qs.isEmpty) = true then some (ps.length == qs.length) else none
  | _, _ => none
def pEq2 : List T → Option Ent := fun ts => match ts with
  | [x, y] => (match eqT x y with
    | some k => oB k
    | none => (eqD x y).map fun k => .own (.bl k))
  | _ => none
theorem pr_eq2 {ca : Ks} : Prim ca (r2L fun x y H Q => (rEqS false x y H Q ∨ rEqU x y H Q) ∨ rEqE x y H Q) pEq2 := ⟨fun P Z H w vs ts Q b o h => by
  unfold pEq2 at h
  split at h
  · rename_i x y
    obtain ⟨v, g, u, f, rfl, h1, h2⟩ := o.i2
    cases e : eqT x y with
    | some k =>
      rw [e] at h
      have q := pr_eq.go P Z H w [v, u] [x, y] Q b (.cons h1 (.cons h2 .nil)) (by
        show Res ca P Z H w Q ((eqT x y).map fun k => .own (.bl k))
        rw [e]; exact h)
      exact Or.inl q
    | none =>
      rw [e] at h
      refine Or.inr ?_
      dsimp only at h
      unfold eqD at h
      split at h
      · rename_i ps qs
        split at h
        · rename_i q
          obtain ⟨a, ks, _, rfl, e1, ek, _⟩ := ow_dct b h1
          obtain ⟨a', ks', _, rfl, e2, ek', _⟩ := ow_dct b h2
          have l1 := congrArg List.length ek
          have l2 := congrArg List.length ek'
          rw [List.length_map, List.length_map] at l1 l2
          simp only [rEqE, e1, e2]
          refine ⟨?_, ?_⟩
          · simp only [Bool.or_eq_true, List.isEmpty_iff] at q
            rcases q with q | q
            · subst q; exact Or.inl (List.length_eq_zero_iff.mp l1)
            · subst q; exact Or.inr (List.length_eq_zero_iff.mp l2)
          · rw [l1, l2]
            exact h.now b (.own (.bl _))
        · exact h.elim
      · exact h.elim
  · exact h.elim⟩
/-! ### o.m(.., k = v) -/
/-- the keywords' values, in order -/
def mMethWK (i : Nat) (C mn : Str) (nk : Nat) (ks : List AK) (m : List Ent → R Ent) (ms : List Ent → R (List Ent)) : List Ent → R Ent := fun ρ => match ρ[i]? with
  | some (.own u) => if chkI C mn u = true then (ms ρ).bind fun es ρ1 => if es.length = nk then Ent.safe (runC (.io i :: ks) m (.no :: es) ρ1) else .fail else .fail
  | _ => .fail
end Rm
/-! Rm, part VH: small pieces. -/
namespace Rm
open PySem PySem.Spec L2
open PyProof.Rows hiding St
variable [Tb]
theorem nameE {X : Cx} {P : Program} {w : World} {x f : Str} {C : Addr} {base : Heap} (E : EDef P w X.K X.mg base x C f) (hg : Gl X x) (hd : (x == ("__debug__" : Str)) = false := by decide) : Names X x (.ref C) := by
  obtain ⟨fI, fd, y, hm, _⟩ := E.ex
  exact ⟨hg, hd, Or.inl hm⟩
def tTryAs (K : PySem.W.Frag) (c : Value) (i : Nat) (ts : Addr → Value → Option Addr → TS) (Wout : WX) (tb : WX → TS) : TS := fun D σ H => tb (wAs K c i ts Wout D) D σ H
section
variable {X : Cx} {x n : Str} {c : Value} {i : Nat} {body suite : List Stmt} {b₀ : Stmt} {np pos pos' : Pos} {tb : WX → TS} {ts : Addr → Value → Option Addr → TS} {Wout : WX}
theorem ps_tryA (hs : X.stack = X.env :: X.outer) (hf : X.env.frame = some X.env.locals) (hN : X.N.Nodup) (hi : X.N[i]? = some n) (hln : X.env.kindOf n = some .local) (hc : Names X x c) (tk : Takes X Wout)
    (hb : ∀ (W : WX) (pn : List (Addr × Obj)) (xe : Value → Shared → Prop), Takes (X.tr pn xe) W → PassesOwn (model X.prog X.w) X.A X.env xe → PSs (X.tr pn xe) body (tb W))
    (hsu : ∀ (a : Addr) (oe : Obj) (cls : Value) (d : Option Addr) (pn : List (Addr × Obj)), Zc cls d oe → (∃ vs, oe.data = .fields vs) → PSs (X.suite a ((a, oe) :: pn)) (b₀ :: suite) (ts a cls d)) :
    PS X (.Try body [.ExceptHandler (some (.Name x np)) (some n) (b₀ :: suite) pos'] [] [] pos) (tTryAs X.K c i ts Wout tb) := ps_try_as hs hf hN hi hln hc tk hb hsu
end
theorem SS.tryA {c : VC} {pin : List Nat} {σ0 : St} {W : WX} {K : PySem.W.Frag} {i : Nat} {C : Str} {xs : List Str} {tb : WX → TS} {ts : Addr → Value → Option Addr → TS} {mb mh : List Ent → O} {f : Str} (hi : i ∉ pin) (hf0 : c.ef C = f)
    (hx : PySem.W.exmOne K (.ref (c.ca.cl C)) (.ref (c.ca.cl C)) = some true) (hxs : ∀ C' ∈ xs, PySem.W.exmOne K (.ref (c.ca.cl C')) (.ref (c.ca.cl C)) = some false)
    (hb : ∀ W', SS ⟨c.base, pin, σ0⟩ W' (tb W') mb) (hh : ∀ a dd, SS ⟨c.exc a dd, pin, σ0⟩ noW (ts a (.ref (c.ca.cl C)) (some dd)) mh) :
    SS ⟨c.base, pin, σ0⟩ W (tTryAs K (.ref (c.ca.cl C)) i ts W tb) (mTryAs i C f xs mb mh) := SS.tryAs hi hf0 hx hxs hb hh
end Rm
/-! Rm, part VI: two names of one thing. -/
namespace Rm
open PySem PySem.Spec L2
open PyProof.Rows hiding St
variable [Tb]
theorem Pin.of {pin pin' : List Nat} {σ0 σ1 σ : St} (hp : ∀ i ∈ pin, i ∈ pin') (a : Pin pin σ0 σ1) (b : Pin pin' σ1 σ) : Pin pin σ0 σ := ⟨fun i q => (b.at_ i (hp i q)).trans (a.at_ i q), b.len.trans a.len⟩
theorem FinS.pin {c : VC} {pin pin' : List Nat} {σ0 σ1 : St} {W : WX} {M P Z : Hp} {D : Ends} {o : O} (hp : ∀ i ∈ pin, i ∈ pin') (a : Pin pin σ0 σ1) (h : FinS ⟨c, pin, σ0⟩ W M P Z D o) : FinS ⟨c, pin', σ1⟩ W M P Z D o := by
  cases o with
  | nx ρ => exact fun σ H' Z' w' z n b s p => h σ H' Z' w' z n b s (Pin.of hp a p)
  | bk ρ => exact fun σ H' Z' w' z n b s p => h σ H' Z' w' z n b s (Pin.of hp a p)
  | ct ρ => exact fun σ H' Z' w' z n b s p => h σ H' Z' w' z n b s (Pin.of hp a p)
  | rt e ρ => exact fun v σ H' Z' fp w' z n b ev s p => h v σ H' Z' fp w' z n b ev s (Pin.of hp a p)
  | err C d ρ => exact fun x vd σ H' Z' w' z n b e o s p => h x vd σ H' Z' w' z n b e o s (Pin.of hp a p)
  | fail => exact h
/-- a value, frozen -/
def mFz (m : List Ent → R Ent) : List Ent → R Ent := fun ρ => (m ρ).bind fun e ρ' => match e.fz with
  | some t => .ok (.own t) ρ'
  | none => .fail
theorem SV.fz {c : VC} {W : WX} {r : Bool} {te : TE} {m : List Ent → R Ent} (h : SV c W r te m) : SV c W r te (mFz m) := by
  refine ⟨fun M P Z H σ ρ w Q mp b s hf => ?_⟩
  refine h.go M P Z H σ ρ w _ mp b s ?_
  unfold mFz at hf
  cases e : m ρ with
  | fail => rw [e] at hf; exact hf
  | err C d ρ' => rw [e] at hf; exact hf
  | ok en ρ' =>
    rw [e] at hf
    dsimp only [R.bind] at hf
    intro v H1 Z1 fp w1 z1 n1 b1 ev s1 ro
    split at hf
    · rename_i tr q
      have o := ev.fz (Z' := fzZ fp H1 Z1) (fzZ_ext b1) (fun a y => fzZ_in a y) q
      have b2 := b1.fz
      have s2 := s1.mono (H' := H1) (fzZ_ext b1) (fun a q o y => y)
      exact hf v H1 _ [] w1 (z1.trans (fzZ_ext b1)) (n1.trans (fzZ_zn b1)) b2 (.own o) s2 ro
    · exact hf.elim
end Rm
/-! Rm, part W: what is wanted of a meaning, one step after another. -/
namespace Rm
open PySem PySem.Spec L2
open PyProof.Rows hiding St
abbrev EK := Str → T → List Ent → Prop
/-- an equation that simp may not take as rfl -/
theorem nr {α : Sort _} {a b : α} (h : a = b) : a = b := h
/-- it comes to Q, or raises what E says -/
def R.w {α : Type} (r : R α) (Q : α → List Ent → Prop) (E : EK) : Prop := match r with
  | .ok a ρ => Q a ρ
  | .err C d ρ => E C d ρ
  | .fail => False
structure OK where
  nx : List Ent → Prop
  rt : Ent → List Ent → Prop
  bk : List Ent → Prop
  ct : List Ent → Prop
  er : EK
def O.w (o : O) (D : OK) : Prop := match o with
  | .nx ρ => D.nx ρ
  | .rt e ρ => D.rt e ρ
  | .bk ρ => D.bk ρ
  | .ct ρ => D.ct ρ
  | .err C d ρ => D.er C d ρ
  | .fail => False
section
variable {α β : Type} {Q : α → List Ent → Prop} {E : EK} {D : OK} {ρ : List Ent}
theorem R.w_imp {r : R α} {Q' : α → List Ent → Prop} {E' : EK} (h : r.w Q E) (hq : ∀ a ρ, Q a ρ → Q' a ρ) (he : ∀ C d ρ, E C d ρ → E' C d ρ) : r.w Q' E' := by
  cases r with
  | ok a ρ => exact hq a ρ h
  | err C d ρ => exact he C d ρ h
  | fail => exact h
theorem O.w_imp {o : O} {D' : OK} (h : o.w D) (h1 : ∀ ρ, D.nx ρ → D'.nx ρ) (h2 : ∀ e ρ, D.rt e ρ → D'.rt e ρ) (h3 : ∀ ρ, D.bk ρ → D'.bk ρ) (h4 : ∀ ρ, D.ct ρ → D'.ct ρ) (h5 : ∀ C d ρ, D.er C d ρ → D'.er C d ρ) : o.w D' := by
  cases o with
  | nx ρ => exact h1 ρ h
  | rt e ρ => exact h2 e ρ h
  | bk ρ => exact h3 ρ h
  | ct ρ => exact h4 ρ h
  | err C d ρ => exact h5 C d ρ h
  | fail => exact h
theorem w_bind {r : R α} {k : α → List Ent → R β} {Q : β → List Ent → Prop} : (r.bind k).w Q E = r.w (fun a ρ => (k a ρ).w Q E) E := by cases r <;> rfl
theorem w_then {r : R α} {k : α → List Ent → O} : (r.then k).w D = r.w (fun a ρ => (k a ρ).w D) D.er := by cases r <;> rfl
theorem w_iteF {c : Prop} [Decidable c] {r : R α} : (if c then r else .fail).w Q E = (c ∧ r.w Q E) := by
  by_cases h : c
  · rw [if_pos h]; exact propext ⟨fun q => ⟨h, q⟩, fun q => q.2⟩
  · rw [if_neg h]; exact propext ⟨fun q => q.elim, fun q => h q.1⟩
theorem wo_iteF {c : Prop} [Decidable c] {o : O} : (if c then o else .fail).w D = (c ∧ o.w D) := by
  by_cases h : c
  · rw [if_pos h]; exact propext ⟨fun q => ⟨h, q⟩, fun q => q.2⟩
  · rw [if_neg h]; exact propext ⟨fun q => q.elim, fun q => h q.1⟩
theorem w_ok {a : α} : (R.ok a ρ).w Q E = Q a ρ := nr rfl
theorem w_err {C : Str} {d : T} : (R.err C d ρ : R α).w Q E = E C d ρ := nr rfl
theorem w_fail : (R.fail : R α).w Q E = False := nr rfl
theorem w_nx : (O.nx ρ).w D = D.nx ρ := nr rfl
theorem w_bk : (O.bk ρ).w D = D.bk ρ := nr rfl
theorem w_ct : (O.ct ρ).w D = D.ct ρ := nr rfl
theorem w_rt {e : Ent} : (O.rt e ρ).w D = D.rt e ρ := nr rfl
theorem w_oerr {C : Str} {d : T} : (O.err C d ρ).w D = D.er C d ρ := nr rfl
end
section
variable {Q : Ent → List Ent → Prop} {QA : List Ent → List Ent → Prop} {QB : Bool → List Ent → Prop} {E : EK} {D : OK} {ρ : List Ent} {m m1 m2 m3 : List Ent → R Ent} {ms : List Ent → R (List Ent)} {mt mt1 mt2 : List Ent → R Bool} {p p' : List T → Option Ent} {mb mb' : List Ent → O} {mp : List Ent → R (T × (T → T))}
/-- what an operation gives, used -/
def oW (o : Option Ent) (Q : Ent → Prop) : Prop := match o with
  | some e => Q e
  | none => False
theorem oW_some {e : Ent} {Q : Ent → Prop} : oW (some e) Q = Q e := nr rfl
theorem oW_ite {c : Prop} [Decidable c] {a : Option Ent} {Q : Ent → Prop} : oW (if c then a else none) Q = (c ∧ oW a Q) := by
  by_cases h : c
  · rw [if_pos h]; simp [h]
  · rw [if_neg h]; simp [h, oW]
/-- an entry, read -/
def rdW (e : Option Ent) (Q : Ent → Prop) : Prop := match e with
  | some (.own t) => Q (.vw t)
  | some (.vw t) => Q (.vw t)
  | _ => False
theorem rdW_own {t : T} {Q : Ent → Prop} : rdW (some (.own t)) Q = Q (.vw t) := nr rfl
theorem rdW_vw {t : T} {Q : Ent → Prop} : rdW (some (.vw t)) Q = Q (.vw t) := nr rfl
theorem w_name {i : Nat} : (mName i ρ).w Q E = rdW ρ[i]? fun e => Q e ρ := by
  unfold mName rdW
  split <;> simp_all [R.w]
theorem w_c {t : T} : (mC t ρ).w Q E = Q (.own t) ρ := nr rfl
theorem w_nil : (mNil ρ).w QA E = QA [] ρ := nr rfl
theorem w_cons {r : Bool} : (mCons r m ms ρ).w QA E = (m ρ).w (fun e ρ1 => (r || e.held) = true ∧ (ms ρ1).w (fun es ρ2 => QA (e :: es) ρ2) E) E := by
  unfold mCons
  rw [w_bind]
  congr 1
  funext e ρ1
  rw [w_iteF, w_bind]
  rfl
theorem w_prim : (mPrim p ms ρ).w Q E = (ms ρ).w (fun es ρ' => oW (p (es.map Ent.t)) fun e => Q e ρ') E := by
  unfold mPrim
  rw [w_bind]
  congr 1
  funext es ρ1
  cases p (es.map Ent.t) <;> rfl
theorem w_op {r2 : Bool} : (mOp p r2 m1 m2 ρ).w Q E = (m1 ρ).w (fun e ρ1 => (r2 || e.held) = true ∧ (m2 ρ1).w (fun e' ρ2 => oW (p [e.t, e'.t]) fun x => Q x ρ2) E) E := by
  unfold mOp
  simp only [w_prim, w_cons, w_nil, Bool.true_or, true_and, List.map_cons, List.map_nil]
theorem w_pure {b : Bool} : (mPure b ρ).w QB E = QB b ρ := nr rfl
theorem w_br {α : Type} {k1 k2 : List Ent → R α} {Q : α → List Ent → Prop} : (mBr mt k1 k2 ρ).w Q E = (mt ρ).w (fun k ρ1 => if k = true then (k1 ρ1).w Q E else (k2 ρ1).w Q E) E := by
  unfold mBr
  rw [w_bind]
  congr 1
  funext k ρ1
  cases k <;> rfl
/-- a bool, used -/
def bW (o : Option Bool) (Q : Bool → Prop) : Prop := match o with
  | some k => Q k
  | none => False
theorem bW_some {k : Bool} {Q : Bool → Prop} : bW (some k) Q = Q k := nr rfl
theorem w_test {f : T → Option Bool} : (mTest f m ρ).w QB E = (m ρ).w (fun e ρ1 => bW (f e.t) fun k => QB k ρ1) E := by
  unfold mTest
  rw [w_bind]
  congr 1
  funext e ρ1
  cases f e.t <;> rfl
theorem w_bool : (mBool m ρ).w QB E = (m ρ).w (fun e ρ1 => bW e.t.bool fun k => QB k ρ1) E := w_test
/-- a tree, used -/
def tW {α : Type} (o : Option α) (Q : α → Prop) : Prop := match o with
  | some t => Q t
  | none => False
theorem tW_some {α : Type} {t : α} {Q : α → Prop} : tW (some t) Q = Q t := nr rfl
theorem tW_ite {α : Type} {c : Prop} [Decidable c] {a : Option α} {Q : α → Prop} : tW (if c then a else none) Q = (c ∧ tW a Q) := by
  by_cases h : c
  · rw [if_pos h]; simp [h]
  · rw [if_neg h]; simp [h, tW]
theorem w_seqT {tp : Bool} : (mSeq tp ms ρ).w Q E = (ms ρ).w (fun es ρ' => tW (fzAll es) fun ts => ts.length ≤ sizeLine ∧ Q (.own (if tp then .tup ts else .lst true ts)) ρ') E := by
  unfold mSeq
  rw [w_bind]
  congr 1
  funext es ρ1
  cases fzAll es with
  | none => rfl
  | some ts => dsimp only [tW]; rw [w_iteF]; rfl
theorem w_lst : (mLst ms ρ).w Q E = (ms ρ).w (fun es ρ' => tW (keepAll es) fun ts => ts.length ≤ sizeLine ∧ Q (.own (.lst true ts)) ρ') E := by
  unfold mLst
  rw [w_bind]
  congr 1
  funext es ρ1
  cases keepAll es with
  | none => rfl
  | some ts => dsimp only [tW]; rw [w_iteF]; rfl
theorem w_chain {r2 : Bool} : (mChain p p' r2 m1 m2 m3 ρ).w Q E = (m1 ρ).w (fun e ρ1 => (r2 || e.held) = true ∧ (m2 ρ1).w (fun e' ρ2 => oW (p [e.t, e'.t]) fun x => bW (match x with | .own (.bl k) => some k | _ => none) fun k => if k = true then e'.held = true ∧ (m3 ρ2).w (fun e3 ρ3 => oW (p' [e'.t, e3.t]) fun y => Q y ρ3) E else Q (.own (.bl false)) ρ2) E) E := by
  unfold mChain
  simp only [w_bind, w_cons, w_nil, Bool.true_or, true_and]
  congr 1
  funext e ρ1
  congr 1
  congr 1
  funext e' ρ2
  cases p [e.t, e'.t] with
  | none => rfl
  | some x =>
    cases x with
    | own t =>
      cases t with
      | bl k =>
        cases k with
        | true =>
          simp only [oW, bW, if_true]
          rw [w_iteF, w_bind]
          congr 2
          funext e3 ρ3
          cases p' [e'.t, e3.t] <;> rfl
        | false => rfl
      | _ => rfl
    | _ => rfl
theorem w_part {Q : Option Int → List Ent → Prop} : (mPart m ρ).w Q E = (m ρ).w (fun e ρ1 => tW (match e.t with | .int i => some i | _ => none) fun i => Q (some i) ρ1) E := by
  unfold mPart
  rw [w_bind]
  congr 1
  funext e ρ1
  cases e.t <;> rfl
theorem w_pureO {o : Option Int} {Q : Option Int → List Ent → Prop} : (mPure o ρ).w Q E = Q o ρ := nr rfl
theorem w_slice {ml mh : List Ent → R (Option Int)} : (mSlice m ml mh ρ).w Q E = (m ρ).w (fun e ρ1 => (ml ρ1).w (fun l ρ2 => (mh ρ2).w (fun u ρ3 => oW (pSl l u [e.t]) fun x => Q x ρ3) E) E) E := by
  unfold mSlice
  simp only [w_bind]
  congr 1
  funext e ρ1
  congr 1
  funext l ρ2
  congr 1
  funext u ρ3
  cases pSl l u [e.t] <;> rfl
/-! statements -/
theorem w_thenS : (mThen mb mb' ρ).w D = (mb ρ).w { D with nx := fun ρ1 => (mb' ρ1).w D } := by
  unfold mThen
  cases mb ρ <;> rfl
theorem w_if : (mIf mt mb mb' ρ).w D = (mt ρ).w (fun k ρ1 => if k = true then (mb ρ1).w D else (mb' ρ1).w D) D.er := by
  unfold mIf
  rw [w_then]
  congr 1
  funext k ρ1
  cases k <;> rfl
theorem w_drop : (mDrop m ρ).w D = (m ρ).w (fun _ ρ1 => D.nx ρ1) D.er := by
  unfold mDrop
  rw [w_then]
  rfl
theorem w_ret : (mRet m ρ).w D = (m ρ).w (fun e ρ1 => D.rt e ρ1) D.er := by
  unfold mRet
  rw [w_then]
  rfl
theorem w_retN : (mRetN ρ).w D = D.rt (.own .non) ρ := nr rfl
/-- what is kept in a name -/
theorem w_set {i : Nat} : (mSet i m ρ).w D = (m ρ).w (fun e ρ1 => tW e.keep fun t => i < ρ1.length ∧ D.nx (ρ1.set i (.own t))) D.er := by
  unfold mSet
  rw [w_then]
  congr 1
  funext e ρ1
  cases e.keep with
  | none => rfl
  | some t => dsimp only [tW]; rw [wo_iteF]; rfl
/-- an entry, handed over -/
def mvW (e : Option Ent) (i : Nat) (ρ : List Ent) (Q : Ent → List Ent → Prop) : Prop := match e with
  | some (.own t) => Q (.own t) (ρ.set i .no)
  | some (.vw t) => Q (.vw t) ρ
  | _ => False
theorem mvW_own {t : T} {i : Nat} : mvW (some (.own t)) i ρ Q = Q (.own t) (ρ.set i .no) := nr rfl
theorem w_move {i : Nat} : (mMove i ρ).w Q E = mvW ρ[i]? i ρ Q := by
  unfold mMove mvW
  split <;> simp_all [R.w]
theorem w_raise {C : Str} : (mRaise C m ρ).w D = (m ρ).w (fun e ρ1 => tW e.fz fun t => D.er C t ρ1) D.er := by
  unfold mRaise
  rw [w_then]
  congr 1
  funext e ρ1
  cases e.fz <;> rfl
theorem w_asg {g : T → List Ent → Option (List Ent)} : (mAsg m g ρ).w D = (m ρ).w (fun e ρ1 => tW e.fz fun t => tW (g t ρ1) fun ρ2 => D.nx ρ2) D.er := by
  unfold mAsg
  rw [w_then]
  congr 1
  funext e ρ1
  cases e.fz with
  | none => rfl
  | some t => dsimp only [tW]; cases g t ρ1 <;> rfl
theorem w_asgN {i : Nat} : (mAsg m (gmName i) ρ).w D = (m ρ).w (fun e ρ1 => tW e.fz fun t => i < ρ1.length ∧ D.nx (ρ1.set i (.own t))) D.er := by
  rw [w_asg]
  congr 1
  funext e ρ1
  congr 1
  funext t
  unfold gmName
  rw [tW_ite]
  rfl
theorem w_parN {is : List Nat} : (mParN is ms ρ).w D = (ms ρ).w (fun es ρ1 => es.length ≤ sizeLine ∧ tW (setN is es ρ1) fun ρ2 => D.nx ρ2) D.er := by
  unfold mParN
  rw [w_then]
  congr 1
  funext es ρ1
  rw [wo_iteF]
  congr 1
  cases setN is es ρ1 <;> rfl
theorem w_par {i j : Nat} : (mPar i j ms ρ).w D = (ms ρ).w (fun es ρ1 => tW (match es.map Ent.keep with | [some t, some u] => some (t, u) | _ => none) fun tu => (i < ρ1.length ∧ j < ρ1.length) ∧ D.nx ((ρ1.set i (.own tu.1)).set j (.own tu.2))) D.er := by
  unfold mPar
  rw [w_then]
  congr 1
  funext es ρ1
  generalize es.map Ent.keep = l
  rcases l with _ | ⟨a, _ | ⟨b, _ | ⟨c, l⟩⟩⟩
  · rfl
  · cases a <;> rfl
  · cases a with
    | none => rfl
    | some t => cases b with
      | none => rfl
      | some u => dsimp only [tW]; rw [wo_iteF]; rfl
  · cases a <;> cases b <;> rfl
/-! places -/
theorem w_plName {i : Nat} {Q : (T × (T → T)) → List Ent → Prop} : (mPlName i ρ).w Q E = tW (match ρ[i]? with | some (.own t) => some t | _ => none) fun t => Q (t, id) ρ := by
  unfold mPlName
  split <;> simp_all [R.w, tW]
theorem w_plFld {C x : Str} {Q : (T × (T → T)) → List Ent → Prop} : (mPlFld C x mp ρ).w Q E = (mp ρ).w (fun uk ρ1 => tW (match uk.1 with | .ins true C' fs => if C' = C then (getK fs x).map fun u => (fs, u) else none | _ => none) fun p => Q (p.2, fun t => uk.2 (.ins true C (putT p.1 x t))) ρ1) E := by
  unfold mPlFld
  rw [w_bind]
  congr 1
  funext uk ρ1
  obtain ⟨u, k⟩ := uk
  cases u with
  | ins o C' fs =>
    cases o with
    | false => rfl
    | true =>
      dsimp only
      by_cases h : C' = C
      · simp only [if_pos h]
        cases getK fs x <;> rfl
      · simp only [if_neg h, w_fail, tW]
  | _ => rfl
theorem w_setF {i : Nat} {C f : Str} : (mSetF i C f mp m ρ).w D = (m ρ).w (fun e ρ1 => (mp ρ1).w (fun uk ρ2 => tW e.keep fun t => tW (setFld C f t uk.1) fun u => D.nx (ρ2.set i (.own (uk.2 u)))) D.er) D.er := by
  unfold mSetF
  rw [w_then]
  congr 1
  funext e ρ1
  rw [w_then]
  congr 1
  funext uk ρ2
  cases e.keep with
  | none => rfl
  | some t => dsimp only [tW]; cases setFld C f t uk.1 <;> rfl
theorem w_setI {i : Nat} {mi : List Ent → R Ent} : (mSetI i mp mi m ρ).w D = (m ρ).w (fun e ρ1 => (mp ρ1).w (fun uk ρ2 => (mi ρ2).w (fun ei _ => tW e.keep fun t => tW (setIx ei.t t uk.1) fun u => D.nx (ρ2.set i (.own (uk.2 u)))) D.er) D.er) D.er := by
  unfold mSetI
  rw [w_then]
  congr 1
  funext e ρ1
  rw [w_then]
  congr 1
  funext uk ρ2
  rw [w_then]
  congr 1
  funext ei _
  cases e.keep with
  | none => rfl
  | some t => dsimp only [tW]; cases setIx ei.t t uk.1 <;> rfl
theorem w_ddel {i : Nat} {mi : List Ent → R Ent} : (mDDel i mp mi ρ).w D = (mp ρ).w (fun uk ρ1 => (mi ρ1).w (fun e _ => tW (match uk.1, e.t.key with | .dct true ps, some k => some (ps, k) | _, _ => none) fun pk => (getK pk.1 pk.2).isSome = true ∧ D.nx (ρ1.set i (.own (uk.2 (.dct true (dropT pk.1 pk.2)))))) D.er) D.er := by
  unfold mDDel
  rw [w_then]
  congr 1
  funext uk ρ1
  rw [w_then]
  congr 1
  funext e _
  obtain ⟨u, k⟩ := uk
  dsimp only
  generalize e.t.key = kk
  cases u with
  | dct o ps =>
    cases o with
    | false => cases kk <;> rfl
    | true =>
      cases kk with
      | none => rfl
      | some k' => dsimp only [tW]; rw [wo_iteF]; rfl
  | _ => rfl
/-! calls -/
/-- a result that is kept -/
def sfW (Q : Ent → List Ent → Prop) : Ent → List Ent → Prop := fun e ρ => match e with
  | .own t => Q (.own t) ρ
  | .vw t => t.isF = true ∧ Q (.own t) ρ
  | _ => False
theorem w_safe {r : R Ent} : (Ent.safe r).w Q E = r.w (sfW Q) E := by
  cases r with
  | ok e ρ =>
    cases e with
    | vw t =>
      unfold Ent.safe
      dsimp only
      rw [w_iteF]; rfl
    | _ => rfl
  | _ => rfl
theorem w_run {ks : List AK} {es : List Ent} : (runC ks m es ρ).w Q E = tW (prep ks es ρ) fun p => (m p.1).w (fun e fin => Q e (back ks p.1 fin p.2)) (fun C d fin => E C d (back ks p.1 fin p.2)) := by
  unfold runC
  cases prep ks es ρ with
  | none => rfl
  | some p => obtain ⟨as, ρr⟩ := p; dsimp only [tW]; cases m as <;> rfl
theorem w_callW {ks : List AK} : (mCallW ks m ms ρ).w Q E = (ms ρ).w (fun es ρ1 => tW (prep ks es ρ1) fun p => (m p.1).w (fun e fin => sfW Q e (back ks p.1 fin p.2)) (fun C d fin => E C d (back ks p.1 fin p.2))) E := by
  unfold mCallW
  simp only [w_bind, w_safe, w_run]
theorem w_kNo {i : Nat} : (mKNo i ms ρ).w QA E = tW (match ρ[i]? with | some (.own t) => some t | _ => none) fun _ => (ms ρ).w (fun es ρ1 => QA (.no :: es) ρ1) E := by
  unfold mKNo
  split
  · rename_i t e
    simp only [e, tW, w_bind]
    rfl
  · rename_i h
    have : (match ρ[i]? with | some (.own t) => some t | _ => none : Option T) = none := by
      split
      · rename_i t e; exact absurd e (h t)
      · rfl
    first | (rw [this]; rfl) | rfl
theorem w_kLw {i : Nat} : (mKLw i ms ρ).w QA E = tW (match ρ[i]? with | some (.vw t) => some t | _ => none) fun _ => (ms ρ).w (fun es ρ1 => QA (.no :: es) ρ1) E := by
  unfold mKLw
  split
  · rename_i t e
    simp only [e, tW, w_bind]
    rfl
  · rename_i h
    have : (match ρ[i]? with | some (.vw t) => some t | _ => none : Option T) = none := by
      split
      · rename_i t e; exact absurd e (h t)
      · rfl
    first | (rw [this]; rfl) | rfl
theorem w_callR : (mCallR m ms ρ).w Q E = (ms ρ).w (fun es ρ1 => (m (es.map Ent.arg)).w (fun e _ => Q e ρ1) (fun C d _ => E C d ρ1)) E := by
  unfold mCallR
  rw [w_bind]
  congr 1
  funext es ρ1
  cases m (es.map Ent.arg) <;> rfl
theorem w_methR {C mn : Str} {ra : Bool} : (mMethR C mn ra m m1 ms ρ).w Q E = (m1 ρ).w (fun e ρ0 => (chkI C mn e.t && (ra || e.held)) = true ∧ (ms ρ0).w (fun es ρ1 => (m ((e :: es).map Ent.arg)).w (fun e _ => Q e ρ1) (fun C d _ => E C d ρ1)) E) E := by
  unfold mMethR
  rw [w_bind]
  congr 1
  funext e ρ0
  rw [w_iteF, w_bind]
  congr 2
  funext es ρ1
  cases m ((e :: es).map Ent.arg) <;> rfl
theorem w_methW {i : Nat} {C mn : Str} {ks : List AK} : (mMethW i C mn ks m ms ρ).w Q E = tW (match ρ[i]? with | some (.own t) => some t | _ => none) fun u => chkI C mn u = true ∧ (ms ρ).w (fun es ρ1 => tW (prep (.io i :: ks) (.no :: es) ρ1) fun p => (m p.1).w (fun e fin => sfW Q e (back (.io i :: ks) p.1 fin p.2)) (fun C d fin => E C d (back (.io i :: ks) p.1 fin p.2))) E := by
  unfold mMethW
  split
  · rename_i u e
    simp only [e, tW]
    rw [w_iteF, w_bind]
    simp only [w_safe, w_run, tW]
  · rename_i h
    have : (match ρ[i]? with | some (.own t) => some t | _ => none : Option T) = none := by
      split
      · rename_i t e; exact absurd e (h t)
      · rfl
    first | (rw [this]; rfl) | rfl
theorem w_methWK {i nk : Nat} {C mn : Str} {ks : List AK} : (mMethWK i C mn nk ks m ms ρ).w Q E = tW (match ρ[i]? with | some (.own t) => some t | _ => none) fun u => chkI C mn u = true ∧ (ms ρ).w (fun es ρ1 => es.length = nk ∧ tW (prep (.io i :: ks) (.no :: es) ρ1) fun p => (m p.1).w (fun e fin => sfW Q e (back (.io i :: ks) p.1 fin p.2)) (fun C d fin => E C d (back (.io i :: ks) p.1 fin p.2))) E := by
  unfold mMethWK
  split
  · rename_i u e
    simp only [e, tW]
    rw [w_iteF, w_bind]
    simp only [w_iteF, w_safe, w_run, tW]
  · rename_i h
    have : (match ρ[i]? with | some (.own t) => some t | _ => none : Option T) = none := by
      split
      · rename_i t e; exact absurd e (h t)
      · rfl
    first | (rw [this]; rfl) | rfl
theorem w_def {bs : List Bool} {k : Nat} : (mDef bs k mb ρ).w Q E = (ρ.length = bs.length ∧ (mb (ρ ++ List.replicate k .no)).w ⟨fun ρ' => Q (.own .non) (finP bs ρ'), fun e ρ' => Q e (finP bs ρ'), fun _ => False, fun _ => False, fun C d ρ' => E C d (finP bs ρ')⟩) := by
  unfold mDef
  rw [w_iteF]
  congr 1
  cases mb (ρ ++ List.replicate k .no) <;> rfl
end
theorem t_own {t : T} : (Ent.own t).t = t := rfl
theorem t_vw {t : T} : (Ent.vw t).t = t := rfl
theorem h_own {t : T} : (Ent.own t).held = true := rfl
theorem keep_own {t : T} : (Ent.own t).keep = some t := rfl
theorem fz_own {t : T} : (Ent.own t).fz = some t.frz := rfl
theorem getK_hd {κ α : Type} [DecidableEq κ] {k : κ} {v : α} {r : List (κ × α)} : getK ((k, v) :: r) k = some v := by rw [getK_cons, if_pos rfl]
theorem getK_tl {κ α : Type} [DecidableEq κ] {k k' : κ} {v : α} {r : List (κ × α)} (h : ¬ k' = k) : getK ((k', v) :: r) k = getK r k := by rw [getK_cons, if_neg h]
theorem ite2 {c : Prop} [Decidable c] {a b : Prop} (h1 : c → a) (h2 : ¬ c → b) : if c then a else b := by
  by_cases h : c
  · rw [if_pos h]; exact h1 h
  · rw [if_neg h]; exact h2 h
/-- no error may come -/
abbrev noE : EK := fun _ _ _ => False
theorem lcM_w {vs : List Nat} {g : T → List Ent → Option (List Ent)} {mt : List Ent → R Bool} {me : List Ent → R Ent} {Q : Ent → List Ent → Prop} {E : EK} (I : List T → List T → List Ent → Prop)
    (h0 : ∀ acc ρ, I [] acc ρ → Q (.own (.lst true acc)) ρ)
    (hs : ∀ t ts acc ρ, I (t :: ts) acc ρ → tW (g t ρ) fun ρ1 => (mt ρ1).w (fun k ρ2 => if k = true then (me ρ2).w (fun e ρ3 => tW e.fz fun u => acc.length < sizeLine ∧ I ts (acc ++ [u]) (wipeE ρ3 vs)) noE else I ts acc (wipeE ρ2 vs)) noE) :
    ∀ (ts acc : List T) (ρ : List Ent), I ts acc ρ → (lcM vs g mt me ts acc ρ).w Q E
  | [], acc, ρ, h => h0 acc ρ h
  | t :: ts, acc, ρ, h => by
    have q := hs t ts acc ρ h
    unfold lcM
    cases e1 : g t ρ with
    | none => rw [e1] at q; exact q.elim
    | some ρ1 =>
      rw [e1] at q
      dsimp only [tW] at q ⊢
      cases e2 : mt ρ1 with
      | fail => rw [e2] at q; exact q.elim
      | err C d ρ' => rw [e2] at q; exact q.elim
      | ok k ρ2 =>
        rw [e2] at q
        dsimp only [R.w] at q
        cases k with
        | false =>
          rw [if_neg (fun z => nomatch z)] at q
          exact lcM_w I h0 hs ts acc _ q
        | true =>
          rw [if_pos rfl] at q
          dsimp only
          cases e3 : me ρ2 with
          | fail => rw [e3] at q; exact q.elim
          | err C d ρ' => rw [e3] at q; exact q.elim
          | ok e ρ3 =>
            rw [e3] at q
            dsimp only at q ⊢
            cases e4 : e.fz with
            | none => rw [e4] at q; exact q.elim
            | some u =>
              rw [e4] at q
              dsimp only [tW] at q ⊢
              rw [if_pos q.1]
              exact lcM_w I h0 hs ts _ _ q.2
theorem w_lc {vs : List Nat} {mi : List Ent → R (List T)} {g : T → List Ent → Option (List Ent)} {mt : List Ent → R Bool} {me : List Ent → R Ent} {ρ : List Ent} {Q : Ent → List Ent → Prop} {E : EK} : (mLc vs mi g mt me ρ).w Q E = (mi ρ).w (fun ts ρ1 => (lcM vs g mt me ts [] (wipeE ρ1 vs)).w Q E) E := by
  unfold mLc
  rw [w_bind]
theorem forM_w {g : T → List Ent → Option (List Ent)} {mb : List Ent → O} {D : OK} (I : List T → List Ent → Prop)
    (h0 : ∀ ρ, I [] ρ → D.nx ρ)
    (hs : ∀ t ts ρ, I (t :: ts) ρ → tW (g t ρ) fun ρ1 => (mb ρ1).w ⟨I ts, D.rt, D.nx, I ts, D.er⟩) :
    ∀ (ts : List T) (ρ : List Ent), I ts ρ → (forM g mb ts ρ).w D
  | [], ρ, h => h0 ρ h
  | t :: ts, ρ, h => by
    have q := hs t ts ρ h
    unfold forM
    cases e1 : g t ρ with
    | none => rw [e1] at q; exact q.elim
    | some ρ1 =>
      rw [e1] at q
      dsimp only [tW] at q ⊢
      cases e2 : mb ρ1 with
      | nx ρ2 => rw [e2] at q; exact forM_w I h0 hs ts ρ2 q
      | ct ρ2 => rw [e2] at q; exact forM_w I h0 hs ts ρ2 q
      | bk ρ2 => rw [e2] at q; exact q
      | rt e ρ2 => rw [e2] at q; exact q
      | err C d ρ2 => rw [e2] at q; exact q
      | fail => rw [e2] at q; exact q.elim
theorem w_for {mi : List Ent → R (List T)} {g : T → List Ent → Option (List Ent)} {mb : List Ent → O} {ρ : List Ent} {D : OK} : (mFor mi g mb ρ).w D = (mi ρ).w (fun ts ρ1 => (forM g mb ts ρ1).w D) D.er := by
  unfold mFor
  rw [w_then]
theorem w_range1 {me : List Ent → R Ent} {ρ : List Ent} {Q : List T → List Ent → Prop} {E : EK} : (mRange1 me ρ).w Q E = (me ρ).w (fun e ρ' => tW (match e.t with | .int j => some j | _ => none) fun j => okR j = true ∧ Q (rangeT 0 j.toNat) ρ') E := by
  unfold mRange1
  rw [w_bind]
  congr 1
  funext e ρ'
  cases e.t with
  | int j => dsimp only [tW]; rw [w_iteF]; rfl
  | _ => rfl
theorem w_itV {m : List Ent → R Ent} {ρ : List Ent} {Q : List T → List Ent → Prop} {E : EK} : (mItV m ρ).w Q E = (m ρ).w (fun e ρ' => tW e.fz fun t => tW t.items fun ts => Q ts ρ') E := by
  unfold mItV
  rw [w_bind]
  congr 1
  funext e ρ'
  cases e.fz with
  | none => rfl
  | some t => dsimp only [tW]; cases t.items <;> rfl
theorem T.isFA_mem : ∀ {ts : List T} {u : T}, T.isFA ts = true → u ∈ ts → u.isF = true
  | t :: ts, u, h, hu => by
    rw [T.isFA, Bool.and_eq_true] at h
    rcases List.mem_cons.mp hu with rfl | q
    · exact h.1
    · exact T.isFA_mem h.2 q
section
variable {ρ : List Ent} {E : EK} {Q : Ent → List Ent → Prop} {QD : List (Key × Ent) → List Ent → Prop} {mk mv : List Ent → R Ent} {mr : List Ent → R (List (Key × Ent))}
theorem w_dNil : (mDNil ρ).w QD E = QD [] ρ := nr rfl
theorem w_dCons : (mDCons mk mv mr ρ).w QD E = (mk ρ).w (fun ek ρ1 => tW ek.t.key fun k => (mv ρ1).w (fun e ρ2 => e.held = true ∧ (mr ρ2).w (fun es ρ3 => QD ((k, e) :: es) ρ3) E) E) E := by
  unfold mDCons
  rw [w_bind]
  congr 1
  funext ek ρ1
  cases ek.t.key with
  | none => rfl
  | some k =>
    dsimp only [tW]
    rw [w_bind]
    congr 1
    funext e ρ2
    rw [w_iteF, w_bind]
    rfl
theorem w_disp : (mDisp mr ρ).w Q E = (mr ρ).w (fun es ρ' => tW (keepP es) fun ps => ((ps.map (·.1)).Nodup ∧ ps.length ≤ 15) ∧ Q (.own (.dct true ps)) ρ') E := by
  unfold mDisp
  rw [w_bind]
  congr 1
  funext es ρ'
  cases keepP es with
  | none => rfl
  | some ps => dsimp only [tW]; rw [w_iteF]; rfl
end
section
variable {ρ : List Ent} {E : EK} {D : OK} {Q : Ent → List Ent → Prop} {m me mi : List Ent → R Ent} {ms : List Ent → R (List Ent)} {mb mh : List Ent → O}
theorem w_try {i : Nat} {C f : Str} : (mTryAs i C f [] mb mh ρ).w D = (mb ρ).w { D with er := fun C' d ρ' => C' = C ∧ i < ρ'.length ∧ (O.out i (mh (ρ'.set i (.exc f d)))).w D } := by
  unfold mTryAs
  cases mb ρ with
  | err C' d ρ' =>
    show (if C' = C then (if i < ρ'.length then O.out i (mh (ρ'.set i (.exc f d))) else .fail) else if ([] : List Str).contains C' = true then O.err C' d ρ' else .fail).w D = (C' = C ∧ i < ρ'.length ∧ (O.out i (mh (ρ'.set i (.exc f d)))).w D)
    by_cases h : C' = C
    · rw [if_pos h]
      rw [wo_iteF]
      exact propext ⟨fun q => ⟨h, q⟩, fun q => q.2⟩
    · rw [if_neg h, if_neg (by simp)]
      exact propext ⟨fun q => (q : False).elim, fun q => (h q.1).elim⟩
  | _ => rfl
/-- a handler's end -/
theorem w_out {i : Nat} {o : O} : (O.out i o).w D = o.w ⟨fun ρ => D.nx ((ρ.map Ent.clean).set i .no), fun e ρ => D.rt e ((ρ.map Ent.clean).set i .no), fun ρ => D.bk ((ρ.map Ent.clean).set i .no), fun ρ => D.ct ((ρ.map Ent.clean).set i .no), fun _ _ _ => False⟩ := by
  cases o <;> rfl
theorem w_exc {n : Str} {i : Nat} {t : T} (h : ρ[i]? = some (.exc n t)) : (mExc n i ρ).w Q E = Q (.own t) ρ := by
  unfold mExc
  rw [h]
  dsimp only
  rw [if_pos rfl]
  rfl
end
mutual
theorem frz_isF : ∀ {t : T}, t.isF = true → t.frz = t
  | .non, _ => rfl
  | .bl _, _ => rfl
  | .int _, _ => rfl
  | .str _, _ => rfl
  | .tup ts, h => by rw [T.isF] at h; rw [T.frz, frz_isFA h]
  | .lst o ts, h => by rw [T.isF, Bool.and_eq_true] at h; cases o with
    | true => exact nomatch h.1
    | false => rw [T.frz, frz_isFA h.2]
  | .dct o ps, h => by rw [T.isF, Bool.and_eq_true] at h; cases o with
    | true => exact nomatch h.1
    | false => rw [T.frz, frz_isFP h.2]
  | .dtp o ks ts, h => by rw [T.isF, Bool.and_eq_true] at h; cases o with
    | true => exact nomatch h.1
    | false => rw [T.frz, frz_isFA h.2]
  | .ins o C fs, h => by rw [T.isF, Bool.and_eq_true] at h; cases o with
    | true => exact nomatch h.1
    | false => rw [T.frz, frz_isFF h.2]
  | .scr ts, h => by rw [T.isF] at h; rw [T.frz, frz_isFA h]
theorem frz_isFA : ∀ {ts : List T}, T.isFA ts = true → T.frzA ts = ts
  | [], _ => rfl
  | t :: ts, h => by rw [T.isFA, Bool.and_eq_true] at h; rw [T.frzA, frz_isF h.1, frz_isFA h.2]
theorem frz_isFP : ∀ {ts : List (Key × T)}, T.isFP ts = true → T.frzP ts = ts
  | [], _ => rfl
  | (k, t) :: ts, h => by rw [T.isFP, Bool.and_eq_true] at h; rw [T.frzP, frz_isF h.1, frz_isFP h.2]
theorem frz_isFF : ∀ {ts : List (Str × T)}, T.isFF ts = true → T.frzF ts = ts
  | [], _ => rfl
  | (k, t) :: ts, h => by rw [T.isFF, Bool.and_eq_true] at h; rw [T.frzF, frz_isF h.1, frz_isFF h.2]
end
theorem w_app {i : Nat} {m : List Ent → R Ent} {ρ : List Ent} {ts : List T} {Q : Ent → List Ent → Prop} {E : EK} (hi : ρ[i]? = some (.own (.lst true ts))) (h : ts.length < sizeLine) (k : (m ρ).w (fun e ρ1 => ρ1 = ρ ∧ tW e.keep fun u => Q (.own .non) (ρ.set i (.own (.lst true (ts ++ [u]))))) E) : (mMethN i fAppend (mCons true m mNil) ρ).w Q E := by
  unfold mMethN
  rw [hi]
  dsimp only
  rw [w_bind, w_cons]
  refine R.w_imp k (fun e ρ1 hq => ?_) (fun _ _ _ q => q)
  obtain ⟨rfl, hq⟩ := hq
  refine ⟨rfl, ?_⟩
  rw [w_nil]
  rw [hi]
  dsimp only [fAppend]
  cases e2 : e.keep with
  | none => rw [e2] at hq; exact hq.elim
  | some u =>
    rw [e2] at hq
    dsimp only
    rw [if_pos h]
    exact hq
theorem O.w_nx {o : O} {I : List Ent → Prop} {D : OK} (h : o.w ⟨I, fun _ _ => False, fun _ => False, fun _ => False, noE⟩) (hk : ∀ ρ, I ρ → D.nx ρ) : o.w D := O.w_imp h hk (fun _ _ q => q.elim) (fun _ q => q.elim) (fun _ q => q.elim) (fun _ _ _ q => q.elim)
/-- a loop whose turns only go on -/
theorem forM_n {g : T → List Ent → Option (List Ent)} {mb : List Ent → O} {D : OK} (I : List T → List Ent → Prop)
    (h0 : ∀ ρ, I [] ρ → D.nx ρ)
    (hs : ∀ t ts ρ, I (t :: ts) ρ → tW (g t ρ) fun ρ1 => (mb ρ1).w ⟨I ts, fun _ _ => False, fun _ => False, fun _ => False, noE⟩)
    (ts : List T) (ρ : List Ent) (h : I ts ρ) : (forM g mb ts ρ).w D := forM_w I h0 (fun t ts ρ h => by
  have := hs t ts ρ h
  cases e : g t ρ with
  | none => rw [e] at this; exact this.elim
  | some ρ1 => rw [e] at this; exact O.w_nx this fun _ q => q) ts ρ h
section
variable {ρ : List Ent} {E : EK} {D : OK} {Q : Ent → List Ent → Prop} {m me mi : List Ent → R Ent} {mt : List Ent → R Bool} {m1 m2 : List Ent → O} {mp : List Ent → R (T × (T → T))}
theorem w_fz : (mFz m ρ).w Q E = (m ρ).w (fun e ρ' => tW e.fz fun t => Q (.own t) ρ') E := by
  unfold mFz
  rw [w_bind]
  congr 1
  funext e ρ'
  cases e.fz <;> rfl
end
end Rm
/-! Rm, part VJ: a law's end by its meaning; a method by keywords; what the head tells of methods. -/
namespace Rm
open PySem PySem.Spec L2
open PyProof.Rows hiding St
variable [Tb]
/-- a list as an object -/
def isLst (o : Obj) : Bool := match o.cls, o.data with
  | .type n, .seq _ _ => decide (n = "list")
  | _, _ => false
/-- no list stands among these -/
def noLst (K : PySem.W.Frag) : Bool := K.all fun p => !isLst p.2
theorem noLst_no {K : PySem.W.Frag} (h : noLst K = true) {a : Addr} {o : Obj} {its : Array Value} {n : Nat} (l : K.lookup a = some o) (c : o.cls = .type "list") (d : o.data = .seq its n) : False := by
  have hm : ∀ K' : PySem.W.Frag, K'.lookup a = some o → ∃ b, (b, o) ∈ K' := fun K' => by
    induction K' with
    | nil => intro z; exact nomatch z
    | cons p r ih =>
      intro z
      rw [List.lookup_cons] at z
      split at z
      · injection z with z
        subst z
        exact ⟨p.1, List.mem_cons_self⟩
      · obtain ⟨b, hb⟩ := ih z
        exact ⟨b, List.mem_cons_of_mem _ hb⟩
  obtain ⟨b, hb⟩ := hm K l
  have := List.all_eq_true.mp h _ hb
  simp [isLst, c, d] at this
theorem ints_own {ca : Ks} {H Z : Hp} : ∀ ns : List Int, OwA ca H Z (ns.map V.int) (ns.map T.int) []
  | [] => .nil
  | n :: ns => .cons (f := []) (g := []) (.int n) (ints_own ns)
/-- the script alone -/
def only (a : Addr) (H : Hp) : Hp := fun b => if b = a then H b else none
theorem endVT {c : VC} {m : List Ent → R Ent} {K : PySem.W.Frag} {H : Hp} {a : Addr} {ns : List Int} (hT : LamX.Tabs Tb.T H) (hn : noLst K = true) (hS : SqL K H a (ns.map V.int))
    (h : (m [.own (.scr (ns.map T.int))]).w (fun e _ => e = .own (.bl true)) noE) : spV c 1 m [.ref a] H (fun v _ => v = .bl true) L2.E0 := by
  have hr : rdo H a = some (.lst (ns.map V.int)) := by
    rcases hS with hS | ⟨o, its, n, l, c1, _, d1, _⟩
    · rcases hS with e | ⟨o, e⟩
      · exact rdo_of e fun _ _ z => nomatch z
      · unfold rdo; rw [e]
    · exact (noLst_no hn l c1 d1).elim
  have xo : Ext (only a H) H := fun b o e => by
    unfold only at e
    split at e
    · exact e
    · cases e
  have hz : rdo (only a H) a = some (.lst (ns.map V.int)) := by
    unfold rdo only at *
    rw [if_pos rfl]; exact hr
  refine ⟨rfl, only a H, [], [.own (.scr (ns.map T.int))], ⟨xo, (fun a q => nomatch q), fun b o h => (out_some h).2, (fun a q => nomatch q), List.nodup_nil, (fun a q => nomatch q), ⟨fun q => out_not q, fun b ps e => ?_, hT⟩⟩, .cons (f := []) (g := []) (.own (.scr hz (ints_own ns))) .nil, ?_⟩
  · have e2 : b = a := by
      unfold only at e
      split at e
      · rename_i q; exact q
      · cases e
    subst e2
    have := xo _ _ e
    unfold rdo at hr
    rw [this] at hr
    cases hr
  · cases e : m [.own (.scr (ns.map T.int))] with
    | fail => rw [e] at h; exact h.elim
    | err C d r => rw [e] at h; exact h.elim
    | ok en r =>
      rw [e] at h
      obtain rfl : en = .own (.bl true) := h
      intro v H' Z' fp w' _ _ _ ev _
      cases ev with
      | own o => exact ow_bl o
theorem endV {c : VC} {m : List Ent → R Ent} {K : PySem.W.Frag} {H : Hp} {a : Addr} {ns : List Int} (hn : noLst K = true) (hS : SqL K H a (ns.map V.int))
    (h : (m [.own (.scr (ns.map T.int))]).w (fun e _ => e = .own (.bl true)) noE) : spV0 c 1 m [.ref a] H (fun v _ => v = .bl true) L2.E0 := @endVT Tb.none c m K H a ns (fun _ q => nomatch q) hn hS h
end Rm
/-! Rm, part VK: o.f += n; walking an own place (it is frozen); enumerate. -/
namespace Rm
open PySem PySem.Spec L2
open PyProof.Rows hiding St
variable [Tb]
/-! ### reading a thing that is only looked at: it stands still -/
/-- a path from a name that is looked at -/
structure SPv (c : VC) (t : TE) (m : List Ent → Option T) : Prop where
  go : ∀ (M P Z H : Hp) (σ : St) (ρ : List Ent) (w : List Addr) (Q : VK), Ext M P → Base P Z H w → Slots c.ca H M Z σ ρ w → (match m ρ with
    | some u => ∀ v g, Ow c.ca M Z v u g → Q v H
    | none => False) → t σ H Q
def mvName (i : Nat) : List Ent → Option T := fun ρ => match ρ[i]? with
  | some (.vw t) => some t
  | some (.own t) => if t.isF = true then some t else none
  | _ => none
section
variable {c : VC} {t : TE} {m : List Ent → Option T}
theorem SPv.name (i : Nat) : SPv c (tV i) (mvName i) := by
  refine ⟨fun M P Z H σ ρ w Q mp b s hf => ?_⟩
  unfold mvName at hf
  unfold tV
  split at hf
  · rename_i u eu
    split at eu
    · rename_i t' e
      cases eu
      obtain ⟨x, l, f, r, e1, e2, sl, _⟩ := s.split e
      cases sl with
      | vw h =>
        rw [e1]
        exact hf _ _ h
    · rename_i t' e
      split at eu
      · rename_i q
        cases eu
        obtain ⟨x, l, f, r, e1, e2, sl, _⟩ := s.split e
        cases sl with
        | own h =>
          rw [e1]
          obtain rfl := h.nof q
          exact hf _ _ h.any
      · cases eu
    · cases eu
  · exact hf.elim
end
def enumT : Nat → List T → List T
  | _, [] => []
  | n, t :: ts => .tup [.int (n : Nat), t] :: enumT (n + 1) ts
theorem enumT_len : ∀ (ts : List T) (n : Nat), (enumT n ts).length = ts.length
  | [], _ => rfl
  | t :: ts, n => by rw [enumT, List.length_cons, enumT_len ts, List.length_cons]
theorem enumT_get : ∀ (ts : List T) (n i : Nat), (enumT n ts)[i]? = ts[i]?.map fun t => .tup [.int ((n + i : Nat) : Int), t]
  | [], _, _ => by simp [enumT]
  | t :: ts, n, 0 => by simp [enumT]
  | t :: ts, n, i + 1 => by
    rw [enumT, List.getElem?_cons_succ, enumT_get ts, List.getElem?_cons_succ]
    have : n + 1 + i = n + (i + 1) := by omega
    rw [this]
end Rm
/-! Rm, part VL: C(k = v); xs.remove(k) of whole numbers; steps of the rules of VK. -/
namespace Rm
open PySem PySem.Spec L2
open PyProof.Rows hiding St
variable [Tb]
/-! ### C(k = v, ..) -/
/-- as many as the keywords -/
def tLen (nk : Nat) (t : TA) : TA := fun σ H Q => t σ H fun zs H1 => zs.length = nk ∧ Q zs H1
def mLen (nk : Nat) (ms : List Ent → R (List Ent)) : List Ent → R (List Ent) := fun ρ => (ms ρ).bind fun es ρ1 => if es.length = nk then .ok es ρ1 else .fail
section
variable {c : VC} {W : WX} {ta : TA} {ms : List Ent → R (List Ent)} {ks : List AK}
theorem SK.len {nk : Nat} (h : SK c W ks ta ms) : SK c W ks (tLen nk ta) (mLen nk ms) := by
  refine ⟨fun M P Z H σ ρ w Q mp b s hf => ?_⟩
  unfold tLen
  refine h.go M P Z H σ ρ w _ mp b s ?_
  unfold mLen at hf
  cases e : ms ρ with
  | fail => rw [e] at hf; exact hf
  | err C d ρ' => rw [e] at hf; exact hf
  | ok es ρ1 =>
    rw [e] at hf
    dsimp only [R.bind] at hf
    by_cases q : es.length = nk
    · rw [if_pos q] at hf
      intro vs H1 Z1 fp w1 z1 n1 b1 ev s1
      exact ⟨ev.length.trans q, hf vs H1 Z1 fp w1 z1 n1 b1 ev s1⟩
    · rw [if_neg q] at hf
      exact hf.elim
end
/-! ### xs.remove(k) -/
/-! ### steps -/
end Rm
/-! Rm, part VM: a method by keywords, that only reads. -/
namespace Rm
open PySem PySem.Spec L2
open PyProof.Rows hiding St
variable [Tb]
def tLen1 (nk : Nat) (t : TA) : TA := fun σ H Q => t σ H fun zs H1 => (1 = 1 ∧ zs.length = nk) ∧ Q zs H1
theorem EntVs.len {ca : Ks} {H Z : Hp} : ∀ {vs : List V} {es : List Ent} {fp : List Addr}, EntVs ca H Z vs es fp → vs.length = es.length
  | _, _, _, .nil => rfl
  | _, _, _, .cons _ A => by rw [List.length_cons, List.length_cons, EntVs.len A]
section
variable {c : VC} {W : WX} {r ra : Bool} {ta : TA} {t1 : TE} {m1 : List Ent → R Ent} {ms : List Ent → R (List Ent)}
theorem SA.len {nk : Nat} (h : SA c W r ta ms) : SA c W r (tLen1 nk ta) (mLen nk ms) := by
  refine ⟨fun M P Z H σ ρ w Q mp b s hf => ?_⟩
  unfold tLen1
  refine h.go M P Z H σ ρ w _ mp b s ?_
  unfold mLen at hf
  cases e : ms ρ with
  | fail => rw [e] at hf; exact hf
  | err C d ρ' => rw [e] at hf; exact hf
  | ok es ρ1 =>
    rw [e] at hf
    dsimp only [R.bind] at hf
    by_cases q : es.length = nk
    · rw [if_pos q] at hf
      intro vs H1 Z1 fp w1 z1 n1 b1 ev s1 ro
      exact ⟨⟨rfl, (EntVs.len ev).trans q⟩, hf vs H1 Z1 fp w1 z1 n1 b1 ev s1 ro⟩
    · rw [if_neg q] at hf
      exact hf.elim
end
end Rm
/-! Rm, part VN: an own thing that is only looked at for a while. -/
namespace Rm
open PySem PySem.Spec L2
open PyProof.Rows hiding St
variable [Tb]
def restE : Ent → Ent → Ent
  | _, .own t => .own t
  | .vw t, _ => .vw t
  | .exc f t, _ => .exc f t
  | _, _ => .no
/-- what is looked at stays as it was ahead -/
def rest : List Ent → List Ent → List Ent
  | e :: ρ, e2 :: ρ2 => restE e e2 :: rest ρ ρ2
  | _, _ => []
end Rm
/-! Rm, part VP: properties. -/
/-! Rm, part VQ: properties, told by the head. -/
namespace Rm
open PySem PySem.Spec L2
open PyProof.Rows hiding St
variable [Tb]
/-- a property f of the class x of the text: its getter -/
structure PropD where
  x : Str
  f : Str
  qual : Str
  st : Stmt
  /-- a static method (else a property) -/
  sm : Bool
def PropD.p (K : PySem.W.Frag) (d : PropD) : Addr := He.ma K (He.ga K d.x) d.f
def PropD.g (K : PySem.W.Frag) (d : PropD) : Addr := match PySem.W.recIn K (d.p K) (if d.sm = true then "staticmethod" else "property") with
  | some (.ref g :: _) => g
  | _ => 0
def PropD.obs (K : PySem.W.Frag) (d : PropD) : He.FnW := match K.lookup (d.g K) with
  | some ⟨_, _, .func fd, _⟩ => some (fd.name, fd.qualname, fd.params, fd.body, fd.scope, fd.globals, fd.closure, fd.builtins)
  | _ => none
def PropD.val (d : PropD) : He.FnW := some (d.f, d.qual, defArgs d.st, .stmts (defBody d.st), defScope d.st, mainGlobals, [], builtinsNs)
def PropD.okP (K : PySem.W.Frag) (d : PropD) : Bool :=
  (He.eqO (PySem.W.findIn K (.ref (He.ga K d.x)) d.f) (some (some (.ref (d.p K)))) && He.eqO (PySem.W.specialIn K (.ref (d.p K)) "__get__") (some (some (.builtin "property.__get__")))) &&
  (decide (PySem.W.takesIn K (.ref (d.p K)) = some true) && (match PySem.W.recIn K (d.p K) "property" with | some (.ref _ :: _) => true | _ => false))
def PropD.okS (K : PySem.W.Frag) (d : PropD) : Bool :=
  (match PySem.W.findCls K (.ref (He.ga K d.x)) (.type "type") d.f with
    | some (.get (.builtin g) (.ref p) .none (.ref D)) => decide (g = "staticmethod.__get__") && (decide (p = d.p K) && decide (D = He.ga K d.x))
    | _ => false) && ((match PySem.W.recIn K (d.p K) "staticmethod" with | some (.ref _ :: _) => true | _ => false) &&
  (PySem.W.readsIn K (He.ga K d.x) (.type "type") && He.eqO (PySem.W.specialIn K (.ref (He.ga K d.x)) "__getattribute__") (some (some (.builtin "type.__getattribute__")))))
def PropD.ok (K : PySem.W.Frag) (d : PropD) : Bool :=
  (if d.sm = true then d.okS K else d.okP K) && (PySem.W.keepIn K (.ref (d.g K)) && (match K.lookup (d.g K) with
    | some ⟨_, _, .func fd, _⟩ => PySem.W.codeIn K fd.code d.qual && (He.dflB K fd.defaults [] && He.kwdB K fd.kwdefaults [])
    | _ => false))
theorem PropD.fn {K : PySem.W.Frag} {d : PropD} (h : d.ok K = true) (o : d.obs K = d.val) : ∃ fd, FunD K d.f d.qual (defArgs d.st) (defBody d.st) (defScope d.st) [] [] (d.g K) fd := by
  unfold PropD.ok at h
  simp only [Bool.and_eq_true] at h
  obtain ⟨_, a5, a6⟩ := h
  unfold PropD.obs at o
  split at a6
  · rename_i oc od fd osl lk
    rw [lk] at o
    obtain ⟨m1, m2, m3, m4, m5, m6, m7, m8, m9, m10, m11, m12, m13, m14, m15⟩ := fd
    have o2 : (some (m1, m2, m3, m4, m5, m6, m7, m15) : He.FnW) = d.val := o
    unfold PropD.val at o2
    simp only [Option.some.injEq, Prod.mk.injEq] at o2
    obtain ⟨rfl, rfl, rfl, rfl, rfl, rfl, rfl, rfl⟩ := o2
    simp only [Bool.and_eq_true] at a6
    obtain ⟨c1, c2, c3⟩ := a6
    exact ⟨_, ⟨⟨_, _, m8, m9, m10, m11, m12, m13, m14, _, rfl, lk, c1, He.dflB_ok c2, He.kwdB_ok c3⟩, a5⟩⟩
  · cases a6
/-! the head's hook with errors and properties -/
end Rm
/-! Rm, part VR: d.get(k, x), what is found or made is frozen. -/
namespace Rm
open PySem PySem.Spec L2
open PyProof.Rows hiding St
variable [Tb]
def mGet2 (md mk mx : List Ent → R Ent) : List Ent → R Ent := fun ρ => (md ρ).bind fun ed ρ1 => match ed.t with
  | .dct _ ps => (match mk ρ1 with
    | .ok ek ρ2 => (match mx ρ2, ek.t.key with
      | .ok ex ρ3, some k => (match getK ps k, ex.fz with
        | some t, _ => if t.isF = true then .ok (.own t) ρ3 else .fail
        | none, some t => .ok (.own t) ρ3
        | _, _ => .fail)
      | _, _ => .fail)
    | _ => .fail)
  | _ => .fail
theorem SV.get2 {c : VC} {W : WX} {r : Bool} {td tk tx : TE} {md mk mx : List Ent → R Ent} (hd : SV c W r td md) (hk : SV c W true tk mk) (hx : SV c W true tx mx) : SV c W false (tDGet2 td tk tx) (mGet2 md mk mx) := by
  refine ⟨fun M P Z H σ ρ w Q mp b s hf => ?_⟩
  unfold tDGet2
  refine hd.go M P Z H σ ρ w _ mp b s ?_
  unfold mGet2 at hf
  cases e1 : md ρ with
  | fail => rw [e1] at hf; exact hf
  | err C d ρ' => rw [e1] at hf; exact hf
  | ok ed ρ1 =>
  rw [e1] at hf
  dsimp only [R.bind] at hf
  intro v1 H1 Z1 fp1 w1 z1 n1 b1 ev1 s1 ro1
  obtain ⟨g1, o1⟩ := ev1.ow
  generalize ed.t = tr at hf o1
  cases tr with
  | dct ow ps =>
    obtain ⟨a, ks, f1, rfl, ea, ek, A⟩ := ow_dct b1 o1
    refine ⟨a, rfl, Or.inl ⟨ks, rdo_rd ea⟩, ?_⟩
    refine hk.go M P Z1 H1 σ ρ1 w1 _ mp b1.drop s1 ?_
    dsimp only at hf
    cases e2 : mk ρ1 with
    | fail => rw [e2] at hf; exact hf
    | err C d ρ' => rw [e2] at hf; exact hf.elim
    | ok ek2 ρ2 =>
      rw [e2] at hf
      dsimp only at hf
      intro v2 H2 Z2 fp2 w2 z2 n2 b2 ev2 s2 ro2
      obtain ⟨x2, rfl⟩ := ro2 rfl
      refine hx.go M P Z2 H2 σ ρ2 w2 _ mp b2.drop s2 ?_
      cases e3 : mx ρ2 with
      | fail => rw [e3] at hf; exact hf
      | err C d ρ' => rw [e3] at hf; exact hf.elim
      | ok ex ρ3 =>
        rw [e3] at hf
        intro v3 H3 Z3 fp3 w3 z3 n3 b3 ev3 s3 ro3
        obtain ⟨x3, rfl⟩ := ro3 rfl
        obtain ⟨g2, o2⟩ := ev2.ow
        cases e4 : ek2.t.key with
        | none => rw [e4] at hf; exact hf.elim
        | some k =>
          rw [e4] at hf
          dsimp only at hf
          obtain ⟨_, rfl⟩ := ow_key o2 e4
          have ea3 : rdo H3 a = some (.dK ks) := x3.o (x2.o ea)
          refine ⟨valV ks k, .inl ⟨ks, k, rdo_rd ea3, rfl, rfl⟩, ?_⟩
          rw [valV_getK]
          rcases getK_rel (k := k) ek A with ⟨y1, y2⟩ | ⟨t', v', f', y1, y2, o⟩
          · rw [y1] at hf
            rw [y2]
            cases e5 : ex.fz with
            | none => rw [e5] at hf; exact hf.elim
            | some t =>
              rw [e5] at hf
              have o3 := ev3.fz (Z' := fzZ fp3 H3 Z3) (fzZ_ext b3) (fun a y => fzZ_in a y) e5
              exact hf v3 H3 (fzZ fp3 H3 Z3) [] w3 (((z1.trans z2).trans z3).trans (fzZ_ext b3)) (((n1.trans n2).trans n3).trans (fzZ_zn b3)) b3.fz (.own o3) (s3.mono (fzZ_ext b3) fun _ _ _ y => y) fun q => nomatch q
          · rw [y1] at hf
            rw [y2]
            dsimp only at hf
            split at hf
            · rename_i q
              obtain rfl := o.nof q
              exact hf v' H3 Z3 [] w3 ((z1.trans z2).trans z3) ((n1.trans n2).trans n3) b3.drop (.own (o.mono (z2.trans z3) fun _ q => nomatch q)) s3 fun q => nomatch q
            · exact hf.elim
  | _ => exact hf.elim
end Rm
/-! Rm, part VS: a list unpacked; steps. -/
namespace Rm
open PySem PySem.Spec L2
open PyProof.Rows hiding St
variable [Tb]
theorem w_get2 {md mk mx : List Ent → R Ent} {ρ : List Ent} {Q : Ent → List Ent → Prop} : (mGet2 md mk mx ρ).w Q noE = (md ρ).w (fun ed ρ1 => tW (match ed.t with | .dct _ ps => some ps | _ => none) fun ps => (mk ρ1).w (fun ek ρ2 => (mx ρ2).w (fun ex ρ3 => tW ek.t.key fun k => (match getK ps k with
    | some t => t.isF = true ∧ Q (.own t) ρ3
    | none => tW ex.fz fun t => Q (.own t) ρ3)) noE) noE) noE := by
  unfold mGet2
  rw [w_bind]
  congr 1
  funext ed ρ1
  cases ed.t with
  | dct o ps =>
    dsimp only [tW]
    cases mk ρ1 with
    | fail => rfl
    | err C d r => rfl
    | ok ek ρ2 =>
      rw [w_ok]
      dsimp only
      cases mx ρ2 with
      | fail => rfl
      | err C d r => rfl
      | ok ex ρ3 =>
        rw [w_ok]
        cases ek.t.key with
        | none => rfl
        | some k =>
          dsimp only
          cases getK ps k with
          | none => dsimp only; cases ex.fz <;> rfl
          | some t => dsimp only; rw [w_iteF]; rfl
  | _ => rfl
end Rm
/-! Rm, part VT: loops over a dict's keys (the dict is locked meanwhile). -/
namespace Rm
open PySem PySem.Spec L2
open PyProof.Rows hiding St
variable [Tb]
/-- neither a dict nor locked -/
def Pl (o : HO) : Prop := (∀ ks, o ≠ .dK ks) ∧ (∀ od u, o ≠ .frz od u) ∧ ∀ ks, o ≠ .dT ks
/-- the same but for locks -/
structure Sm (H H' : Hp) : Prop where
  rd : ∀ x u, rdo H x = some u → rdo H' x = some u
  pl : ∀ x o, Pl o → H x = some o → H' x = some o
theorem isTC_pl {o : HO} (h : isTC o) : Pl o := by
  rcases h with ⟨ps, rfl⟩ | ⟨c, x, rfl⟩
  · exact ⟨(fun _ z => by cases z), (fun _ _ z => by cases z), (fun _ z => by cases z)⟩
  · exact ⟨(fun _ z => by cases z), (fun _ _ z => by cases z), (fun _ z => by cases z)⟩
theorem pl_tup {xs : List V} : Pl (.tup xs) := ⟨(fun _ z => by cases z), (fun _ _ z => by cases z), (fun _ z => by cases z)⟩
theorem pl_lst {xs : List V} : Pl (.lst xs) := ⟨(fun _ z => by cases z), (fun _ _ z => by cases z), (fun _ z => by cases z)⟩
theorem pl_ins {C dx : Addr} {fs : List (Str × V)} : Pl (.ins C dx fs) := ⟨(fun _ z => by cases z), (fun _ _ z => by cases z), (fun _ z => by cases z)⟩
theorem pl_xd {fs : List (Str × V)} : Pl (.xd fs) := ⟨(fun _ z => by cases z), (fun _ _ z => by cases z), (fun _ z => by cases z)⟩
section
variable {ca : Ks} {H H' Z Z' M M' : Hp}
mutual
theorem Ow.sm (h : Sm H H') (z : Sm Z Z') : ∀ {v : V} {t : T} {fp : List Addr}, Ow ca H Z v t fp → Ow ca H' Z' v t fp
  | _, _, _, .non => .non
  | _, _, _, .bl b => .bl b
  | _, _, _, .int i => .int i
  | _, _, _, .str x => .str x
  | _, _, _, .tup e A => .tup (z.pl _ _ pl_tup e) (OwA.sm h z A)
  | _, _, _, .lstF e A => .lstF (z.pl _ _ pl_lst e) (OwA.sm h z A)
  | _, _, _, .lstO e A => .lstO (h.pl _ _ pl_lst e) (OwA.sm h z A)
  | _, _, _, .dctF e k A => .dctF (z.rd _ _ e) k (OwA.sm h z A)
  | _, _, _, .dctO e k A nd => .dctO (h.rd _ _ e) k (OwA.sm h z A) nd
  | _, _, _, .dtpF e k A => .dtpF (z.rd _ _ e) k (OwA.sm h z A)
  | _, _, _, .dtpO e k A nd => .dtpO (h.rd _ _ e) k (OwA.sm h z A) nd
  | _, _, _, .insF e k A => .insF (z.pl _ _ pl_ins e) k (OwA.sm h z A)
  | _, _, _, .insO e k A nd => .insO (h.pl _ _ pl_ins e) k (OwA.sm h z A) nd
  | _, _, _, .scr e A => .scr (z.rd _ _ e) (OwA.sm h z A)
theorem OwA.sm (h : Sm H H') (z : Sm Z Z') : ∀ {vs : List V} {ts : List T} {fp : List Addr}, OwA ca H Z vs ts fp → OwA ca H' Z' vs ts fp
  | _, _, _, .nil => .nil
  | _, _, _, .cons a A => .cons (Ow.sm h z a) (OwA.sm h z A)
end
theorem Slot.sm (h : Sm H H') (m : Sm M M') (z : Sm Z Z') {x : Option V} {e : Ent} {fp : List Addr} (s : Slot ca H M Z x e fp) : Slot ca H' M' Z' x e fp := by
  cases s with
  | no => exact .no
  | own o => exact .own (o.sm h z)
  | vw o => exact .vw (o.sm m z)
  | exc x e o => exact .exc x (z.pl _ _ pl_xd e) (o.sm m z)
theorem Slots.sm (h : Sm H H') (m : Sm M M') (z : Sm Z Z') : ∀ {σ : St} {ρ : List Ent} {w : List Addr}, Slots ca H M Z σ ρ w → Slots ca H' M' Z' σ ρ w
  | _, _, _, .nil => .nil
  | _, _, _, .cons a b => .cons (a.sm h m z) (Slots.sm h m z b)
theorem EntV.sm (h : Sm H H') (z : Sm Z Z') {v : V} {e : Ent} {fp : List Addr} (s : EntV ca H Z v e fp) : EntV ca H' Z' v e fp := by
  cases s with
  | own o => exact .own (o.sm h z)
  | vw o => exact .vw (o.sm h z)
end
/-! ### a lock at a, and away again -/
def lkO (od : Obj) : Option HO → Option HO
  | some (.dK ks) => some (.frz od (.dK ks))
  | some (.dT ks) => some (.frz od (.dT ks))
  | o => o
def lk (a : Addr) (od : Obj) (H : Hp) : Hp := fun x => if x = a then lkO od (H x) else H x
def rdO : Option HO → Option HO
  | some (.frz _ u) => some u
  | o => o
theorem rdo_O {H : Hp} {x : Addr} : rdo H x = rdO (H x) := rfl
theorem rdO_lk {od : Obj} {o : Option HO} : rdO (lkO od o) = rdO o := by
  cases o with
  | none => rfl
  | some o => cases o <;> rfl
theorem lkO_pl {od : Obj} {o : HO} (p : Pl o) : lkO od (some o) = some o := by
  cases o with
  | dK ks => exact absurd rfl (p.1 _)
  | dT ks => exact absurd rfl (p.2.2 _)
  | _ => rfl
theorem lkO_some {od : Obj} {q : Option HO} {o : HO} (h : lkO od q = some o) (p : Pl o) : q = some o := by
  cases q with
  | none => cases h
  | some q =>
    cases q with
    | dK ks => cases h; exact absurd rfl (p.2.1 _ _)
    | dT ks => cases h; exact absurd rfl (p.2.1 _ _)
    | _ => exact h
theorem lkO_none {od : Obj} {o : Option HO} : lkO od o = none ↔ o = none := by
  cases o with
  | none => exact Iff.rfl
  | some o => cases o <;> exact ⟨(fun z => by cases z), (fun z => by cases z)⟩
section
variable {a x : Addr} {od : Obj} {H M P Z : Hp}
theorem lk_ne (n : x ≠ a) : lk a od H x = H x := if_neg n
theorem lk_at : lk a od H a = lkO od (H a) := if_pos rfl
theorem lk_none : lk a od H x = none ↔ H x = none := by
  by_cases e : x = a
  · subst e; rw [lk_at]; exact lkO_none
  · rw [lk_ne e]
theorem lk_not (n : NoT H) : NoT (lk a od H) := fun x ps e => by
  by_cases q : x = a
  · subst q
    rw [lk_at] at e
    exact n _ _ (lkO_some e ⟨(fun _ z => by cases z), (fun _ _ z => by cases z), (fun _ z => by cases z)⟩)
  · rw [lk_ne q] at e; exact n _ _ e
theorem sm_lk : Sm H (lk a od H) := ⟨fun x u h => by
  by_cases e : x = a
  · subst e; rw [rdo_O, lk_at, rdO_lk]; exact h
  · rw [rdo_O, lk_ne e]; exact h, fun x o p h => by
  by_cases e : x = a
  · subst e; rw [lk_at, h, lkO_pl p]
  · rw [lk_ne e]; exact h⟩
theorem Ext.lk {H' : Hp} (h : Ext H H') : Ext (lk a od H) (Rm.lk a od H') := fun x o q => by
  by_cases e : x = a
  · subst e
    rw [lk_at] at q ⊢
    cases y : H x with
    | none => rw [y] at q; cases q
    | some u => rw [h _ _ y, ← y]; exact q
  · rw [lk_ne e] at q ⊢; exact h x o q
end
section
variable {ca : Ks} {a : Addr} {od : Obj} {M P Z H : Hp} {w : List Addr} {ks : List (Key × V)}
theorem Base.lk (b : Base P Z H w) (n : a ∉ w) : Base (Rm.lk a od P) (Rm.lk a od Z) (Rm.lk a od H) w :=
  ⟨b.z.lk, fun x q => lk_none.mpr (b.zw x q), b.m.lk, fun x q => lk_none.mpr (b.mw x q), b.nd, fun x q => (b.hw x q).keep fun o y => by rw [lk_ne (show x ≠ a from fun e => n (by rw [← e]; exact q))]; exact y, ⟨fun q => lk_not (b.tb.m q), lk_not b.tb.z, tabs_keep b.tb.t fun x o e t => sm_lk.pl _ _ (isTC_pl t) e⟩⟩
end
/-! ### a path that can be read under a lock -/
structure SPd (c : VC) (t : TE) (m : List Ent → Option T) : Prop where
  go : ∀ (M P Z H : Hp) (σ : St) (ρ : List Ent) (w : List Addr) (u : T), Ext M P → Base P Z H w → Slots c.ca H M Z σ ρ w → m ρ = some u → ∃ v g, Ow c.ca M Z v u g ∧ ∀ H', Sm M H' → Sm Z H' → ∀ Q : VK, Q v H' → t σ H' Q
def mdName (i : Nat) : List Ent → Option T := mvName i
def mdItem (m mi : List Ent → Option T) : List Ent → Option T := fun ρ => match m ρ, mi ρ with
  | some (.dct _ ps), some k => (match k.key with
    | some k => getK ps k
    | none => none)
  | some (.lst _ ts), some (.int j) => atI ts j
  | some (.tup ts), some (.int j) => atI ts j
  | _, _ => none
section
variable {c : VC} {t t2 : TE} {m m2 : List Ent → Option T}
theorem SPd.name (i : Nat) : SPd c (tV i) (mdName i) := by
  refine ⟨fun M P Z H σ ρ w u mp b s hf => ?_⟩
  unfold mdName mvName at hf
  unfold tV
  split at hf
  · rename_i t' e
    cases hf
    obtain ⟨x, l, f, r, e1, e2, sl, _⟩ := s.split e
    cases sl with
    | vw h =>
      refine ⟨_, _, h, fun H' _ _ Q q => ?_⟩
      rw [e1]; exact q
  · rename_i t' e
    split at hf
    · rename_i q
      cases hf
      obtain ⟨x, l, f, r, e1, e2, sl, _⟩ := s.split e
      cases sl with
      | own h =>
        obtain rfl := h.nof q
        refine ⟨_, _, h.any, fun H' _ _ Q q => ?_⟩
        rw [e1]; exact q
    · cases hf
  · cases hf
theorem SPd.item (h : SPd c t m) (h2 : SPd c t2 m2) : SPd c (tOp rItem t t2) (mdItem m m2) := by
  refine ⟨fun M P Z H σ ρ w u mp b s hf => ?_⟩
  unfold mdItem at hf
  split at hf
  · rename_i ow ps kt e1 e2
    obtain ⟨v, g, o, k⟩ := h.go M P Z H σ ρ w _ mp b s e1
    obtain ⟨v2, g2, o2, k2⟩ := h2.go M P Z H σ ρ w _ mp b s e2
    split at hf
    · rename_i kk ek
      have hkey := (ow_key o2 ek).1
      have main : ∃ a ks, v = .ref a ∧ (∀ H', Sm M H' → Sm Z H' → rdo H' a = some (.dK ks)) ∧ ∃ y m1, getK ks kk = some y ∧ Ow c.ca M Z y u m1 := by
        cases o with
        | @dctF a ks _ e3 ek3 A =>
          obtain ⟨l, m1, r, y, f1, f2, o1, _⟩ := OwP.foc ek3 A hf
          exact ⟨a, ks, rfl, fun H' s1 s2 => s2.rd _ _ e3, y, m1, f2, o1⟩
        | @dctO a ks _ fp e3 ek3 A nd =>
          obtain ⟨l, m1, r, y, f1, f2, o1, _⟩ := OwP.foc ek3 A hf
          exact ⟨a, ks, rfl, fun H' s1 s2 => s1.rd _ _ e3, y, m1, f2, o1⟩
      obtain ⟨a, ks, rfl, hr, y, m1, hy, oy⟩ := main
      refine ⟨y, m1, oy, fun H' s1 s2 Q q => ?_⟩
      unfold tOp
      refine k H' s1 s2 _ (k2 H' s1 s2 _ ?_)
      simp only [rItem, hr H' s1 s2, hkey, valV_getK, hy]
      exact q
    · cases hf
  · rename_i ow ts j e1 e2
    obtain ⟨v, g, o, k⟩ := h.go M P Z H σ ρ w _ mp b s e1
    obtain ⟨v2, g2, o2, k2⟩ := h2.go M P Z H σ ρ w _ mp b s e2
    obtain rfl := ow_int o2
    have main : ∃ a xs, v = .ref a ∧ (∀ H', Sm M H' → Sm Z H' → rdo H' a = some (.lst xs)) ∧ ∃ y m1, atI xs j = some y ∧ Ow c.ca M Z y u m1 := by
      cases o with
      | @lstF a xs _ e3 A =>
        obtain ⟨y, m1, q, oy⟩ := atI_rel A hf
        exact ⟨a, xs, rfl, fun H' s1 s2 => (rdo_of (s2.pl _ _ pl_lst e3) fun _ _ z => nomatch z), y, m1, q, oy⟩
      | @lstO a xs _ fp e3 A =>
        obtain ⟨y, m1, q, oy⟩ := atI_rel A hf
        exact ⟨a, xs, rfl, fun H' s1 s2 => (rdo_of (s1.pl _ _ pl_lst e3) fun _ _ z => nomatch z), y, m1, q, oy⟩
    obtain ⟨a, ks, rfl, hr, y, m1, hy, oy⟩ := main
    refine ⟨y, m1, oy, fun H' s1 s2 Q q => ?_⟩
    unfold tOp
    refine k H' s1 s2 _ (k2 H' s1 s2 _ ?_)
    simp only [rItem, hr H' s1 s2, hy]
    exact q
  · rename_i ts j e1 e2
    obtain ⟨v, g, o, k⟩ := h.go M P Z H σ ρ w _ mp b s e1
    obtain ⟨v2, g2, o2, k2⟩ := h2.go M P Z H σ ρ w _ mp b s e2
    obtain rfl := ow_int o2
    cases o with
    | @tup a xs _ e3 A =>
      obtain ⟨y, m1, q, oy⟩ := atI_rel A hf
      refine ⟨y, m1, oy, fun H' s1 s2 Q q2 => ?_⟩
      unfold tOp
      refine k H' s1 s2 _ (k2 H' s1 s2 _ ?_)
      simp only [rItem, rdo_of (s2.pl _ _ pl_tup e3) (fun _ _ z => nomatch z), q]
      exact q2
  · cases hf
end
/-! ### the loop -/
section
variable {ca : Ks} {M P Z H : Hp} {w : List Addr}
theorem ow_keyT {Z : Hp} {k : Key} : Ow ca H Z (kV k) (keyT k) [] := by
  cases k with
  | inl i => exact .int i
  | inr x => exact .str x
end
/-! ### a loop over a dict's keys that are tuples -/
/-- a target that takes a tuple of keys -/
structure SGK (F : FC) (g : TG) (m : T → List Ent → Option (List Ent)) : Prop where
  go : ∀ (M P Z H : Hp) (σ : St) (ρ : List Ent) (w : List Addr) (q : Addr) (k : List Key) (Q : St → Hp → Prop), Base P Z H w → H q = some (.tup (k.map kV)) → Slots F.c.ca H M Z σ ρ w → Pin F.pin F.σ0 σ → (match m (.tup (k.map keyT)) ρ with
    | some ρ' => ∀ σ' w', Base P Z H w' → Slots F.c.ca H M Z σ' ρ' w' → Pin F.pin F.σ0 σ' → Q σ' H
    | none => False) → g (.ref q) σ H Q
theorem owA_kts {ca : Ks} {H Z : Hp} : ∀ k : List Key, OwA ca H Z (k.map kV) (k.map keyT) []
  | [] => .nil
  | k :: ks => .cons (f := []) (g := []) ow_keyT (owA_kts ks)
theorem SGK.tup {F : FC} {K : PySem.W.Frag} {n : Nat} {gs : TGs} {ms : List T → List Ent → Option (List Ent)} (h2 : SGs F gs ms) : SGK F (gTup K n gs) (gmTup n ms) := ⟨fun M P Z H σ ρ w q k Q b e s pn h => by
  unfold gmTup at h
  dsimp only at h
  by_cases z : (k.map keyT).length = n
  · rw [if_pos z] at h
    exact ⟨q, _, rfl, SqT.of e, by rw [List.length_map] at z ⊢; exact z, h2.go M P Z H σ ρ w _ _ Q b (owA_kts k) s pn h⟩
  · rw [if_neg z] at h
    exact h.elim⟩
end Rm
/-! Rm, part VU: try with several clauses 'except C as e', all of one name. -/
/-! Rm, part VX: told(lambda: e), where told gives what a call returns, or what it refuses. -/
namespace Rm
open PySem PySem.Spec L2
open PyProof.Rows hiding St
theorem Takes.len {X : Cx} {W : WX} (t : Takes X W) : Takes X (fun cls d σ H => σ.length = X.N.length → W cls d σ H) := fun u s' ⟨a, B, sI, pins, σ, H, cls, d, e, I, nb, up, sky, na, os, ag, w⟩ =>
  t u s' ⟨a, B, sI, pins, σ, H, cls, d, e, I, nb, up, sky, na, os, ag, w I.len⟩
variable [Tb]
/-! ### repr([e, ..]), the items only looked at -/
end Rm
/-! Rm, part VY: defs that make a lambda; the law's end with tables. -/
/-! Rm, part WB: more steps of meanings. -/
/-! Rm, part WD: statements over a dict that is only looked at; names for parts of what is lent. -/
/-! Rm, part WF: dict(list of pairs), list(range(n)). -/
/-! Rm, part WG: a statement during which an own thing is only looked at. -/
/-! Rm, part WH: sorted(set(xs)) of a list of whole numbers. -/
/-! Rm, part WI: a loop over an own list whose items are changed. -/
/-! Rm, part WJ: a part of what is lent, asked by what changes other things. -/
/-! Rm, part WK: d[call] = v; sorted(list of ints). -/
/-! Rm, part WE: != of lists of other lengths, whatever stands in them. -/
/-! Rm, part SA: super().m(..) of own classes. -/
namespace Rm
open PySem PySem.Spec L2
open PyProof.Rows hiding St
/-- a def that says super(): it stands at fI in the class at D -/
structure SupF (P : Program) (K : PySem.W.Frag) (D fI cc : Addr) (F : NdefX.NF) : Prop where
  lk : ∃ oc od osl kV doc pm an ct, K.lookup fI = some ⟨oc, od, .func (PySem.W.fnX F.name F.qual F.params F.body F.scope F.cl .none kV doc pm an (.ref F.c) ct), osl⟩
  cd : PySem.W.codeIn K (.ref F.c) F.qual = true
  code : ∃ ccl cdd vs ccs file tf, K.lookup F.c = some ⟨ccl, cdd, .fields vs, ccs⟩ ∧ vs[2]? = some (.str file tf) ∧ ((P.main.file : Str) == file) = true
  cl : F.cl = [(("__class__" : Str), cc)]
  cell : ∃ a b d, K.lookup cc = some ⟨a, b, .cell (some (.ref D)), d⟩
  cls : ∃ cd, PySem.W.clsIn K D = some cd
  sup : PySem.W.nsIn K mainGlobals "super" = some none
end Rm
/-! Rm, part SB: statements that say super().m(..); defs with such statements. -/
namespace Rm
open PySem PySem.Spec L2
open PyProof.Rows hiding St
/-- statements, run within a def's code -/
structure PSsA (X : Cx) (c : Code) (st : List Stmt) (t : TS) : Prop where
  run : ∀ (pins : List (Addr × Obj)) (s : Shared) (σ : St) (H : Hp) (D : Ends), Inv X pins σ H s → t D σ H → PySem.wpAt (model X.prog X.w) X.A c (execs st X.env) (SP X pins D) X.xe s
structure PSA (X : Cx) (c : Code) (st : Stmt) (t : TS) : Prop where
  run : ∀ (pins : List (Addr × Obj)) (s : Shared) (σ : St) (H : Hp) (D : Ends), Inv X pins σ H s → t D σ H → PySem.wpAt (model X.prog X.w) X.A c (exec st X.env) (SP X pins D) X.xe s
section
variable {X : Cx} {c : Code} {st : Stmt} {rest : List Stmt} {t u : TS}
theorem PSsA.of (h : PSs X rest t) : PSsA X c rest t := ⟨fun pins s σ H D I q => wpAt_of_wpAny (h.run pins s σ H D I q)⟩
theorem PSA.of (h : PS X st t) : PSA X c st t := ⟨fun pins s σ H D I q => wpAt_of_wpAny (h.run pins s σ H D I q)⟩
theorem PSsA.cons (h1 : PSA X c st t) (h2 : PSsA X c rest u) : PSsA X c (st :: rest) (tSeq t u) := by
  refine ⟨fun pins s σ H D I h => ?_⟩
  refine PySem.ks_wpAt_execs_cons (PySem.ks_wpAt_mono (h1.run pins s σ H { D with nx := u D } I h) (fun f s1 q => ?_) fun _ _ z => z)
  cases f with
  | next =>
    obtain ⟨σ', H', I', q⟩ := q
    exact h2.run pins s1 σ' H' D I' q
  | ret v => exact q
  | brk => exact q
  | cont => exact q
end
section
variable {P : Program} {w : World} {K : PySem.W.Frag} {mg : Str → Option Value} {base : Heap} {N : List Str} {F : NdefX.NF} {fI : Addr} {A : Around} {outer : List Env} {s0 : Shared} {H0 : Hp} {E0 : XK} {C D g cc : Addr} {m slf : Str}
/-- a def in which super() is said keeps its promise -/
theorem okSup {k : Nat} {sp : Sp} {fd : FuncData} {ps : List Str} (T : SupF P K D fI cc F) (hfd : ∃ oc od osl, K.lookup fI = some ⟨oc, od, .func fd, osl⟩) (S : NdefX.NScope N ps ["__class__"] F.scope) (len : ∀ vs H Q E, sp vs H Q E → vs.length = ps.length)
    (hb : ∀ (A : Around) (outer : List Env) (s : Shared) (H : Hp) (vs : List V) (Q : VK) (E : XK), Room k (NdefX.ncx (L2.CX P w) P w K mg base N F fI A outer s H E).A → Takes (NdefX.ncx (L2.CX P w) P w K mg base N F fI A outer s H E) (fun cls d _ H => E cls d H) →
      PassesOwn (model P w) (NdefX.ncx (L2.CX P w) P w K mg base N F fI A outer s H E).A (NdefX.ncx (L2.CX P w) P w K mg base N F fI A outer s H E).env (NdefX.ncx (L2.CX P w) P w K mg base N F fI A outer s H E).xe → sp vs H Q E →
      ∃ t, PSsA (NdefX.ncx (L2.CX P w) P w K mg base N F fI A outer s H E) (.func F.body (NdefX.envF F fI s.heap.objs.size)) F.body t ∧ t { nx := fun _ H' => Q .non H', rt := Q } (NdefX.startF N vs [some (.ref D)]) H) :
    FnOk P w K mg base (L2.CX P w) (k + 1) fI fd ps sp := by
  obtain ⟨oc0, od0, osl0, lk0⟩ := hfd
  obtain ⟨oc, od, osl, kV, doc, pm, an, ct, lk⟩ := T.lk
  have e1 := lk.symm.trans lk0
  injection e1 with e1
  injection e1 with _ _ e1 _
  injection e1 with e1
  subst e1
  refine ⟨len, fun A outer s H args us vs Q E hr e0 hbd r hsp => ?_⟩
  have hl := len _ _ _ _ hsp
  have kx : K.In s.heap := e0.mod.kin.keeps fun b o e => (e0.bs b o e).1
  have lim : s.heap.NoLimit := e0.mod.nolimit.keeps fun b o e => (e0.bs b o e).1
  obtain ⟨c0, c1, c3, lkc⟩ := T.cell
  have hcc : H cc = none := (e0.bs _ _ (e0.mod.kin _ _ lkc)).2
  have CA : NdefX.CellsAt F.cl ["__class__"] [some (.ref D)] s.heap H := by
    rw [T.cl]
    refine ⟨rfl, fun y c e => ?_, fun x y c h1 h2 => ?_, fun i y h => ?_⟩
    · have : c = cc := by
        simp only [List.lookup] at e
        split at e
        · injection e with e; exact e.symm
        · cases e
      subst this
      exact ⟨hcc, _, _, kx _ _ lkc, rfl⟩
    · simp only [List.lookup] at h1 h2
      split at h1
      · rename_i e1
        split at h2
        · rename_i e2
          exact (eq_of_beq e1).trans (eq_of_beq e2).symm
        · cases h2
      · cases h1
    · match i, h with
      | 0, h =>
        injection h with h
        subst h
        refine ⟨cc, by simp [List.lookup], fun v hv => ?_⟩
        injection hv with hv
        injection hv with hv
        subst hv
        exact ⟨.ref D, rfl, _, kx _ _ lkc, rfl⟩
      | i + 1, h => cases h
  refine codeAny_call_function hr.depth (kx _ _ lk) rfl S.co S.gen rfl (PySem.W.codeRec_of kx T.cd) (hbd _ _ _ _ ?_)
  refine wpAny_newFunctionEnv S.nocell (fun y hy => S.par y.1 (List.of_mem_zip hy).1) (fun h₁ hns hsb => ⟨lim.fresh _ hsb, ?_⟩) S.kind
  have kp : ∀ b o, s.heap.get? b = some o → h₁.get? b = some o := fun b o e => hsb.extBut b o (Nat.ne_of_lt (Heap.lt_size e)) (Heap.get?_push_of_some _ e)
  have I : L2.Inv (NdefX.ncx (L2.CX P w) P w K mg base N F fI A outer s H E) [] (NdefX.startF N vs [some (.ref D)]) H { s with heap := h₁, toks := s.toks + (ps.zip us).length } :=
    NdefX.inv_startN S hr.hd e0 hl r CA hns kp
  obtain ⟨t, ht, hq⟩ := hb A outer s H vs Q E (hr.deeper _) (takes_of rfl rfl rfl rfl) (passes_of rfl) hsp
  show codeAny _ _ (.func F.body (NdefX.envF F fI s.heap.objs.size)) _ _
  refine PySem.ks_codeAny_funcAt ?_
  have fin : ∀ {σ' : St} {H' : Hp} {v : V} {u : Value} {s' : Shared}, Inv (NdefX.ncx (L2.CX P w) P w K mg base N F fI A outer s H E) [] σ' H' s' → RelV v u → Q v H' → CE outer P w H s Q u s' :=
    fun {σ' H' v u s'} J rv q => ⟨v, H', J.os, J.bare, J.base, J.hok, rv, q⟩
  refine PySem.ks_wpAt_mono (ht.run [] _ _ H _ I hq) (fun fl s' hs => ?_) (fun e s' z => z)
  cases fl with
  | ret u =>
    obtain ⟨v, σ', H', J, rv, q⟩ := hs
    exact fin J rv q
  | next =>
    obtain ⟨σ', H', J, q⟩ := hs
    exact fin (v := V.non) (u := Value.none) J rfl q
  | brk =>
    obtain ⟨_, _, _, q⟩ := hs
    exact False.elim q
  | cont =>
    obtain ⟨_, _, _, q⟩ := hs
    exact False.elim q
end
end Rm
/-! Rm, part SC: defs with super() as they stand; their bodies. -/
namespace Rm
open PySem PySem.Spec L2
open PyProof.Rows hiding St
/-- a def in which super() is said, of the class at D -/
structure AtS (P : Program) (K : PySem.W.Frag) (D : Addr) (m qual : Str) (st : Stmt) (ps : List Str) (f : Addr) (fd : FuncData) : Prop where
  ex : ∃ cc cdA, SupF P K D f cc ⟨m, qual, defArgs st, defBody st, defScope st, [(("__class__" : Str), cc)], cdA⟩
  lk : ∃ oc od osl, K.lookup f = some ⟨oc, od, .func fd, osl⟩
  b : L2.Binds K fd ps []
section
variable {P : Program} {w : World} {K : PySem.W.Frag} {mg : Str → Option Value} {base : Heap} {N ps : List Str} {D f0 : Addr} {fd0 : FuncData} {m qual : Str} {st : Stmt} {k : Nat} {sp : Sp}
theorem okS (F : AtS P K D m qual st ps f0 fd0) (S : NdefX.NScope N ps ["__class__"] (defScope st)) (len : ∀ vs H Q E, sp vs H Q E → vs.length = ps.length)
    (hb : ∀ (cc cdA : Addr) (_ : SupF P K D f0 cc ⟨m, qual, defArgs st, defBody st, defScope st, [(("__class__" : Str), cc)], cdA⟩) (A : Around) (outer : List Env) (s : Shared) (H : Hp) (vs : List V) (Q : VK) (E : XK),
      Room k (NdefX.ncx (L2.CX P w) P w K mg base N ⟨m, qual, defArgs st, defBody st, defScope st, [(("__class__" : Str), cc)], cdA⟩ f0 A outer s H E).A → Takes (NdefX.ncx (L2.CX P w) P w K mg base N ⟨m, qual, defArgs st, defBody st, defScope st, [(("__class__" : Str), cc)], cdA⟩ f0 A outer s H E) (fun cls d _ H => E cls d H) →
      PassesOwn (model P w) (NdefX.ncx (L2.CX P w) P w K mg base N ⟨m, qual, defArgs st, defBody st, defScope st, [(("__class__" : Str), cc)], cdA⟩ f0 A outer s H E).A (NdefX.ncx (L2.CX P w) P w K mg base N ⟨m, qual, defArgs st, defBody st, defScope st, [(("__class__" : Str), cc)], cdA⟩ f0 A outer s H E).env
        (NdefX.ncx (L2.CX P w) P w K mg base N ⟨m, qual, defArgs st, defBody st, defScope st, [(("__class__" : Str), cc)], cdA⟩ f0 A outer s H E).xe → sp vs H Q E →
      ∃ t, PSsA (NdefX.ncx (L2.CX P w) P w K mg base N ⟨m, qual, defArgs st, defBody st, defScope st, [(("__class__" : Str), cc)], cdA⟩ f0 A outer s H E) (.func (defBody st) (NdefX.envF ⟨m, qual, defArgs st, defBody st, defScope st, [(("__class__" : Str), cc)], cdA⟩ f0 s.heap.objs.size)) (defBody st) t ∧
        t { nx := fun _ H' => Q .non H', rt := Q } (NdefX.startF N vs [some (.ref D)]) H) :
    FnOk P w K mg base (L2.CX P w) (k + 1) f0 fd0 ps sp := by
  obtain ⟨cc, cdA, T⟩ := F.ex
  exact okSup T F.lk S len fun A outer s H vs Q E hr tk po h => hb cc cdA T A outer s H vs Q E hr tk po h
end
end Rm
/-! Rm, part YA: CONST.index(x); len(set(texts)); sorted(texts); all(..); isinstance(x, (list, tuple)). -/
namespace Rm
open PySem PySem.Spec L2
open PyProof.Rows hiding St
variable [Tb]
/-! ### CONST.index(x), CONST a written tuple of texts -/
/-! ### sorted(texts) -/
def strsU : List T → Option (List Str)
  | [] => some []
  | .str x :: ts => (strsU ts).map fun r => x :: r
  | _ :: _ => none
theorem strsU_map : ∀ {ts : List T} {xs : List Str}, strsU ts = some xs → ts = xs.map T.str
  | [], xs, h => by cases h; rfl
  | .str x :: ts, xs, h => by
    unfold strsU at h
    cases e : strsU ts with
    | none => rw [e] at h; cases h
    | some r => rw [e] at h; cases h; rw [strsU_map e]; rfl
  | .non :: _, _, h => nomatch h
  | .bl _ :: _, _, h => nomatch h
  | .int _ :: _, _, h => nomatch h
  | .tup _ :: _, _, h => nomatch h
  | .lst _ _ :: _, _, h => nomatch h
  | .dct _ _ :: _, _, h => nomatch h
  | .dtp _ _ _ :: _, _, h => nomatch h
  | .ins _ _ _ :: _, _, h => nomatch h
  | .scr _ :: _, _, h => nomatch h
theorem strsU_of : ∀ xs : List Str, strsU (xs.map T.str) = some xs
  | [] => rfl
  | x :: xs => by rw [List.map_cons, strsU, strsU_of xs]; rfl
theorem owA_strs {ca : Ks} {H Z : Hp} : ∀ xs : List Str, OwA ca H Z (xs.map V.str) (xs.map T.str) []
  | [] => .nil
  | x :: xs => .cons (f := []) (g := []) (.str x) (owA_strs xs)
/-! ### all(list of True, False) -/
def blsU : List T → Option (List Bool)
  | [] => some []
  | .bl x :: ts => (blsU ts).map fun r => x :: r
  | _ :: _ => none
theorem blsU_map : ∀ {ts : List T} {xs : List Bool}, blsU ts = some xs → ts = xs.map T.bl
  | [], xs, h => by cases h; rfl
  | .bl x :: ts, xs, h => by
    unfold blsU at h
    cases e : blsU ts with
    | none => rw [e] at h; cases h
    | some r => rw [e] at h; cases h; rw [blsU_map e]; rfl
  | .non :: _, _, h => nomatch h
  | .str _ :: _, _, h => nomatch h
  | .int _ :: _, _, h => nomatch h
  | .tup _ :: _, _, h => nomatch h
  | .lst _ _ :: _, _, h => nomatch h
  | .dct _ _ :: _, _, h => nomatch h
  | .dtp _ _ _ :: _, _, h => nomatch h
  | .ins _ _ _ :: _, _, h => nomatch h
  | .scr _ :: _, _, h => nomatch h
theorem owA_blsE {ca : Ks} {H Z : Hp} : ∀ {is : List Bool} {xs : List V} {f : List Addr}, OwA ca H Z xs (is.map T.bl) f → xs = is.map V.bl
  | [], _, _, .nil => rfl
  | i :: is, _, _, .cons h A => by
    cases h
    rw [owA_blsE A]; rfl
def pAll : List T → Option Ent := fun ts => match ts with
  | [.lst _ us] => (match blsU us with
    | some bs => oB (bs.all id)
    | none => none)
  | _ => none
theorem pr_all {K : PySem.W.Frag} {ca : Ks} : Prim ca (rAll K) pAll := ⟨fun P Z H w vs ts Q b o h => by
  unfold pAll at h
  split at h
  rotate_left
  · exact h.elim
  rename_i oo us
  split at h
  rotate_left
  · exact h.elim
  rename_i is ei
  obtain ⟨v, g, rfl, h1⟩ := o.i1
  obtain ⟨a, xs, _, rfl, e1, A⟩ := ow_lst b h1
  rw [blsU_map ei] at A
  rw [owA_blsE A] at e1
  exact ⟨a, is, rfl, SqL.of e1, h.now b (.own (.bl _))⟩⟩
/-! ### isinstance(x, (list, tuple)) -/
/-! ### isinstance(x, D), x an instance of an own class C -/
/-! ### len(set(texts)) -/
end Rm
/-! Rm, part YB: {None: i, "x": j, ..}[e]. -/
namespace Rm
open PySem PySem.Spec L2
open PyProof.Rows hiding St
variable [Tb]
/-! ### a path with items, read from what is only looked at -/
theorem Sm.ofExt {H H' : Hp} (x : Ext H H') : Sm H H' := ⟨fun a u h => x.o h, fun a o _ h => x a o h⟩
section
variable {c : VC} {t : TE} {m : List Ent → Option T}
theorem SPd.v (h : SPd c t m) : SPv c t m := ⟨fun M P Z H σ ρ w Q mp b s hf => by
  cases e : m ρ with
  | none => rw [e] at hf; exact hf.elim
  | some u =>
    rw [e] at hf
    obtain ⟨v, g, o, k⟩ := h.go M P Z H σ ρ w u mp b s e
    exact k H (Sm.ofExt (mp.trans b.m)) (Sm.ofExt b.z) Q (hf v g o)⟩
end
end Rm
/-! Rm, part YE: o.m(e, .., k = v, ..) that only reads. -/
/-! Rm, part YF: methods with keyword-only parameters that have defaults. -/
/-! Rm, part YG: methods called without their keyword-only parameters. -/
namespace Rm
open PySem PySem.Spec L2
open PyProof.Rows hiding St
/-! ### meanings -/
theorem Slots.init {ca : Ks} {M Z H : Hp} {x : Option V} : ∀ {σ : St} {ρ : List Ent} {w : List Addr}, Slots ca H M Z (σ ++ [x]) ρ w → ∃ w1 f, w = w1 ++ f ∧ Slots ca H M Z σ (ρ.take σ.length) w1
  | [], _, _, .cons a s => ⟨[], _, rfl, by simpa using Slots.nil⟩
  | y :: σ, _, _, .cons (f := f) a s => by
    obtain ⟨w1, g, e, s1⟩ := Slots.init s
    exact ⟨f ++ w1, g, by rw [e, List.append_assoc], by simpa using Slots.cons a s1⟩
end Rm
/-! Rm, part YI: max(xs) of a list of whole numbers. -/
/-! Rm, part YJ: len(set(xs)) and sorted(xs) of lists and tuples of texts. -/
/-! Rm, part YL: static methods, called of their class; xs.index(k) of an own list of whole numbers. -/
/-! Rm, part YM: dicts whose keys are (int, str). -/
/-! Rm, part YN: an item of an own list as an argument that is changed, or looked at while others are changed. -/
/-! Rm, part YO: own | and the like, both sides of one own class. -/
/-! Rm, part ZA: sorted(xs) of alike data (numbers, texts, tuples of them). -/
/-! Rm, part ZB: sorted(xs) of trees. -/
namespace Rm
open PySem PySem.Spec L2
open PyProof.Rows hiding St
/-! ### insertion, equal ones in their order -/
/-! ### trees by their data -/
/-- what stands for frozen trees, item by item -/
theorem owA_zip {ca : Ks} {H Z : Hp} : ∀ {xs : List V} {us : List T}, OwA ca H Z xs us [] → ∃ zs : List (V × T), zs.map (·.1) = xs ∧ zs.map (·.2) = us ∧ ∀ z ∈ zs, Ow ca H Z z.1 z.2 []
  | [], [], .nil => ⟨[], rfl, rfl, fun z hz => nomatch hz⟩
  | x :: xs, u :: us, A => by
    generalize e : ([] : List Addr) = fp at A
    cases A with
    | @cons _ _ _ _ f g h1 h2 =>
      obtain ⟨rfl, rfl⟩ := List.nil_eq_append_iff.mp e
      obtain ⟨zs, a, b, c⟩ := owA_zip h2
      refine ⟨(x, u) :: zs, by rw [List.map_cons, a], by rw [List.map_cons, b], fun z hz => ?_⟩
      rcases List.mem_cons.mp hz with rfl | hz
      · exact h1
      · exact c z hz
theorem owA_of {ca : Ks} {H Z : Hp} : ∀ {zs : List (V × T)}, (∀ z ∈ zs, Ow ca H Z z.1 z.2 []) → OwA ca H Z (zs.map (·.1)) (zs.map (·.2)) []
  | [], _ => .nil
  | z :: zs, h => .cons (f := []) (g := []) (h z List.mem_cons_self) (owA_of fun y hy => h y (List.mem_cons_of_mem _ hy))
end Rm
/-! Rm, part ZC: sets of tuples of numbers and texts: a set that is filled. -/
namespace Rm
open PySem PySem.Spec L2
open PyProof.Rows hiding St
section
variable {P : Program} {w : World} {A : Around} {E : Value → Shared → Prop} {s : Shared}
/-- the tuple of keys k stands at b -/
abbrev TupK (P : Program) (w : World) (h : Heap) (k : List Key) (b : Addr) : Prop := IsTupleKey (mixKind P w) h k b
/-- its hash -/
abbrev hsK (P : Program) (w : World) (k : List Key) : Int := tupleKeyHash (mixKind P w) k
/-! ### the set -/
abbrev PK := Addr × List Key
def entK (P : Program) (w : World) (L : List PK) : List (Int × Value) := L.map fun p => (hsK P w p.2, Value.ref p.1)
abbrev hshK (P : Program) (w : World) (L : List PK) : List Int := L.map fun p => hsK P w p.2
structure SetK (P : Program) (w : World) (h : Heap) (a : Addr) (L : List PK) (es : Array (Int × Value)) (ep : Nat) (t : SetTable) : Prop where
  ob : ∃ o, h.get? a = some o ∧ o.ExactSet ∧ o.data = .set es ep t
  rows : es.toList = entK P w L
  tab : TabOk t (hshK P w L)
  nd : (L.map (·.2)).Nodup
  tup : ∀ p ∈ L, TupK P w h p.2 p.1
  led : w.params.followText "set-order" = true ∨ t.led = true
  room : L.length * 5 < t.mask * 3
  few : L.length < 64
variable {a : Addr} {L : List PK} {es : Array (Int × Value)} {ep : Nat} {t : SetTable}
theorem entK_len (hr : es.toList = entK P w L) : es.size = L.length := by
  rw [← Array.length_toList, hr]
  unfold entK
  rw [List.length_map]
theorem SetK.size (R : SetK P w s.heap a L es ep t) : es.size = L.length := entK_len R.rows
/-! ### one more -/
end
end Rm
/-! Rm, part ZD: set(xs) of a list of tuples of numbers and texts; sorted(set(xs)) of them. -/
namespace Rm
open PySem PySem.Spec L2
open PyProof.Rows hiding St
/-- what a set has of the first i items -/
structure GotK (ks : List PK) (i : Nat) (L : List PK) : Prop where
  sub : ∀ p ∈ L, p ∈ ks.take i
  all : ∀ p ∈ ks.take i, p.2 ∈ L.map (·.2)
  len : L.length ≤ i
theorem take_snoc {α : Type} {l : List α} {i : Nat} {x : α} (h : l[i]? = some x) : l.take (i + 1) = l.take i ++ [x] := by
  rw [List.take_succ, h]; rfl
theorem GotK.next {ks L L' : List PK} {i : Nat} {x : PK} (g : GotK ks i L) (h : ks[i]? = some x) (h1 : x.2 ∈ L.map (·.2) → L' = L) (h2 : x.2 ∉ L.map (·.2) → L'.Perm ((x.1, x.2) :: L)) : GotK ks (i + 1) L' := by
  have e := take_snoc h
  rcases Classical.em (x.2 ∈ L.map (·.2)) with c | c
  · rw [h1 c]
    refine ⟨fun p hp => ?_, fun p hp => ?_, Nat.le_succ_of_le g.len⟩
    · rw [e]
      exact List.mem_append_left _ (g.sub p hp)
    · rw [e] at hp
      rcases List.mem_append.mp hp with q | q
      · exact g.all p q
      · rw [List.mem_singleton.mp q]
        exact c
  · have pm := h2 c
    refine ⟨fun p hp => ?_, fun p hp => ?_, ?_⟩
    · rw [e]
      rcases List.mem_cons.mp (pm.mem_iff.mp hp) with q | q
      · rw [q]
        exact List.mem_append_right _ (List.mem_singleton.mpr rfl)
      · exact List.mem_append_left _ (g.sub p q)
    · rw [(pm.map (·.2)).mem_iff, List.map_cons]
      rw [e] at hp
      rcases List.mem_append.mp hp with q | q
      · exact List.mem_cons_of_mem _ (g.all p q)
      · rw [List.mem_singleton.mp q]
        exact List.mem_cons_self
    · rw [pm.length_eq, List.length_cons]
      exact Nat.succ_le_succ g.len
end Rm
/-! Rm, part ZE: sorted(set(xs)) of a list of tuples of numbers and texts. -/
/-! Rm, part ZF: sorted(set(xs)) as a rule, its meaning. -/
/-! Rm, part ZG: {f(k) for k in d} of whole numbers, sorted. -/
/-! Rm, part ZH: the meaning of sorted({f(k) for k in d}). -/
/-! Rm, part ZI: sorted({f(k) for k in d}), joined. -/
/-! Rm, part ZJ: CONST[i] of a written tuple of texts; xs[::-1] of a list or tuple. -/
namespace Rm
open PySem PySem.Spec L2
open PyProof.Rows hiding St
/-! ### CONST[i] -/
/-! ### t[::-1] -/
section
variable {prog : Program} {w : World} {A : Around} {E : Value → Shared → Prop} {s : Shared}
theorem rev_places (n : Nat) : Builtin.Slice.slicePlaces ((n : Int) - 1) (-1) (-1) = n := by
  unfold Builtin.Slice.slicePlaces
  have h1 : ¬ (-1 : Int) > 0 := by decide
  simp only [h1, if_false]
  split <;> first | omega | (simp; done) | (simp; omega)
theorem fm_congr {α β : Type} {f g : α → Option β} : ∀ {l : List α}, (∀ m ∈ l, f m = g m) → l.filterMap f = l.filterMap g
  | [], _ => rfl
  | x :: l, h => by rw [List.filterMap_cons, List.filterMap_cons, h x List.mem_cons_self, fm_congr fun m hm => h m (List.mem_cons_of_mem _ hm)]
theorem rev_pick (xs : Array Value) : ((List.range xs.size).filterMap fun (m : Nat) => xs[(((xs.size : Int) - 1) + (m : Int) * (-1)).toNat]?).toArray = xs.toList.reverse.toArray := by
  have h := PySem.W.krv_pick xs
  unfold PySem.slicePick at h
  rw [PySem.W.krv_bounds] at h
  have h2 : ((PySem.sliceRange ((xs.size : Int) - 1) (-1) (-1)).filterMap (xs[·]?)).toArray = xs.toList.reverse.toArray := h
  rw [PySem.W.krv_sliceRange, List.filterMap_map] at h2
  rw [← h2]
  refine congrArg List.toArray (fm_congr fun m hm => ?_)
  have hm := List.mem_range.mp hm
  show xs[_]? = xs[xs.size - 1 - m]?
  congr 1
  omega
theorem rev_tuple {t sl : Addr} {items : Array Value} {vs : Value} {Q : Value → Shared → Prop} (ht : IsTup s.heap t items) (hs : s.heap.IsSliceOf sl .none .none vs) (ps : IsPart vs (some (-1)))
    (h : Q (.ref s.heap.objs.size) { s with heap := s.heap.push { cls := .type "tuple", data := .seq items.toList.reverse.toArray } }) (hsz : items.size ≤ sizeLine) : wpAny (model prog w) A (getItem (.ref t) (.ref sl)) Q E s := by
  obtain ⟨os, hos, hcs, hds⟩ := id hs
  have hTs : s.TypeIs (.ref sl) "slice" := ⟨os, hos, hcs⟩
  unfold getItem
  try with_reducible refine wpAny_holding ?_
  first | refine wpAny_bind (wpAny_pure ?_) | skip
  refine wpAny_bind (wpAny_sequenceKey ht.typeIs (by decide) ?_)
  refine wpAny_bind (wpAny_callSpecial?_slot (name := Str.ofString "__getitem__") ht.typeIs PyProof.Rows.slot_tuple_getitem (wpAny_call_entry PyProof.Rows.slot_tuple_getitem ht.typeIs entry_tuple_getitem ?_ (args_tuple_getitem _ _)))
  show wpAny (model prog w) _ (Builtin.Tuple.tupleItemsOf (.ref t) >>= _) _ _ s
  refine wpAny_bind (tupleItemsOf_ ht ?_)
  refine wpAny_bind (wpAny_typeOf hTs ?_)
  rw [if_pos (by decide)]
  have happ : ∀ {A' : Around} {E' : Value → Shared → Prop} {R : Int × Int × Nat → Shared → Prop}, R ((items.size : Int) - 1, -1, items.size) s → wpAny (model prog w) A' (Builtin.Slice.sliceApplied (.ref sl) (pure (items.size : Int))) R E' s := by
    intro A' E' R hR
    unfold Builtin.Slice.sliceApplied Builtin.Slice.sliceFields
    refine wpAny_bind (wpAny_bind (wpAny_field hos hds (x := .none) rfl (wpAny_bind (wpAny_field hos hds (x := .none) rfl (wpAny_bind (wpAny_field hos hds (x := vs) rfl (wpAny_pure ?_)))))))
    refine wpAny_bind (HT.slicePart_ ps ?_)
    show wpAny (model prog w) A' (if ((-1 : Int) == 0) = true then _ else _) _ _ s
    rw [if_neg (by decide)]
    refine wpAny_bind (slicePart_none (wpAny_bind (slicePart_none (wpAny_bind (wpAny_pure ?_)))))
    show wpAny (model prog w) A' (match Builtin.Slice.sliceAdjust none none (-1) (items.size : Int) with | (lo, hi) => pure (lo, (-1 : Int), Builtin.Slice.slicePlaces lo hi (-1))) _ _ s
    have e : Builtin.Slice.sliceAdjust none none (-1) (items.size : Int) = ((items.size : Int) - 1, -1) := rfl
    rw [e]
    show wpAny (model prog w) A' (pure ((items.size : Int) - 1, (-1 : Int), Builtin.Slice.slicePlaces ((items.size : Int) - 1) (-1) (-1))) _ _ s
    rw [rev_places]
    exact wpAny_pure hR
  refine wpAny_bind (happ ?_)
  have hno : ¬ ((((items.size : Int) - 1) == 0 && (-1 : Int) == 1 && items.size == items.size) = true) := by
    intro q
    rw [Bool.and_eq_true, Bool.and_eq_true] at q
    exact absurd (eq_of_beq q.1.2) (by decide)
  show wpAny (model prog w) _ (if (((items.size : Int) - 1) == 0 && (-1 : Int) == 1 && items.size == items.size) = true then _ else _) _ _ s
  rw [if_neg hno, rev_pick]
  have hz : sizeOk (.seq items.toList.reverse.toArray) := by
    show items.toList.reverse.toArray.size ≤ sizeLine
    rw [List.size_toArray, List.length_reverse, Array.length_toList]
    exact hsz
  first
    | exact wpAny_bind (m := Builtin.Tuple.tupleExact _) (wpAny_newObj_type (wpAny_pure ⟨_, rfl, wpAny_pure h⟩) hz)
    | exact wpAny_bind (m := Builtin.Tuple.tupleExact _) (wpAny_newObj_type (wpAny_bind (wpAny_pure (wpAny_pure ⟨_, rfl, wpAny_pure h⟩))) hz)
    | exact wpAny_bind (wpAny_bind (m := Builtin.Tuple.tupleExact _) (wpAny_newObj_type (wpAny_pure (wpAny_pure ⟨_, rfl, wpAny_pure h⟩)) hz))
    | exact wpAny_bind (wpAny_bind (m := Builtin.Tuple.tupleExact _) (wpAny_newObj_type (wpAny_pure ⟨_, rfl, wpAny_pure h⟩) hz))
end
section
variable {X : Cx}
/-- xs[::-1] of a list, or of a tuple -/
def rRev (K : PySem.W.Frag) : V → Hp → VK → Prop := fun x H Q => ∃ a xs, x = .ref a ∧ ((SqL K H a xs ∧ ∀ p, H p = none → Q (.ref p) (upd H p (.lst xs.reverse))) ∨ (SqT K H a xs ∧ ∀ p, H p = none → Q (.ref p) (upd H p (.tup xs.reverse))))
theorem pe_rev {e : Expr} {te : TE} {k : Nat} {p1 p2 p3 pos : Pos} (he : PE X e te) : PE X (.Subscript e (.Slice none none (some (.UnaryOp .USub (.Constant (.int 1) k p1) p2)) p3) pos) (tUn (rRev X.K) te) := by
  refine ⟨fun pins s σ H Q I h => ?_⟩
  refine Subscript_ (thn (he.run pins s σ H _ I h) fun v s1 ⟨x, H1, I1, r1, q1⟩ => ?_)
  obtain ⟨a, xs, ex, q⟩ := q1
  subst ex
  cases r1
  have hst : PO X (some (.UnaryOp .USub (.Constant (.int 1) k p1) p2)) (tPart (tUn (rU fun i => .int (-i)) (tC (.int 1)))) := po_some (pe_un un_neg pe_int)
  refine wpAny_Slice (thn (po_none.run pins s1 σ H1 (fun o Ha => o = none ∧ Ha = H1) I1 ⟨rfl, rfl⟩) fun vl s2 ⟨l, H2, I2, pl, el, e2⟩ => ?_)
  subst el e2
  cases pl
  refine thn (po_none.run pins s2 σ H2 (fun o Ha => o = none ∧ Ha = H2) I2 ⟨rfl, rfl⟩) fun vu s3 ⟨u, H3, I3, pu, eu, e3⟩ => ?_
  subst eu e3
  cases pu
  refine thn (hst.run pins s3 σ H3 (fun o Ha => o = some (-1) ∧ Ha = H3) I3 ⟨1, rfl, -1, rfl, rfl, rfl⟩) fun vs s4 ⟨o, H4, I4, ps, eo, e4⟩ => ?_
  subst eo e4
  have I5 : Inv X pins σ H4 { s4 with heap := s4.heap.push { cls := .type "slice", data := .fields #[.none, .none, vs] } } := I4.kept (t' := s4.toks) fun b ob q => Heap.get?_push_of_some _ q
  show wpAny (model X.prog X.w) X.A (subscriptTail e (.Slice none none (some (.UnaryOp .USub (.Constant (.int 1) k p1) p2)) p3) (.ref a) (.ref s4.heap.objs.size)) (EP X pins σ Q) X.xe { s4 with heap := s4.heap.push { cls := .type "slice", data := .fields #[.none, .none, vs] } }
  rcases q with ⟨hx, q⟩ | ⟨hx, q⟩
  · obtain ⟨its, r, ht, hz⟩ := I5.list hx
    have hlen := r.length
    refine tail_any (ops := [.ref a, .ref s4.heap.objs.size]) ht.isList.typeIs (PySem.slot_list_getitem.lookup) ?_ (by with_unfolding_all rfl)
    refine wpAny_getItem_list_slice ht.isList (Heap.IsSliceOf.new _ .none .none vs) .none .none ps (by decide) ?_ (by rw [List.size_toArray]; omega)
    rw [PySem.W.krv_pick]
    refine ⟨.ref _, _, I5.laid (t' := s4.toks) (o := .lst xs.reverse) (fun b ob q => Heap.get?_push_of_some _ q) (Nat.le_refl _) ?_, rfl, q _ (I5.hok.fresh (Nat.le_refl _))⟩
    exact ⟨by rw [List.length_reverse]; exact hz, _, 0, r.reverse, Heap.get?_push_size _ rfl⟩
  · obtain ⟨its, r, ht, hz⟩ := I5.tuple hx
    have hlen := r.length
    refine tail_any (ops := [.ref a, .ref s4.heap.objs.size]) ht.typeIs (PyProof.Rows.slot_tuple_getitem.lookup) ?_ (by with_unfolding_all rfl)
    refine rev_tuple ht (Heap.IsSliceOf.new _ .none .none vs) ps ?_ (by rw [List.size_toArray]; omega)
    refine ⟨.ref _, _, I5.laid (t' := s4.toks) (o := .tup xs.reverse) (fun b ob q => Heap.get?_push_of_some _ q) (Nat.le_refl _) ?_, rfl, q _ (I5.hok.fresh (Nat.le_refl _))⟩
    exact ⟨by rw [List.length_reverse]; exact hz, _, r.reverse, IsTup.new _ _⟩
end
/-! its meaning -/
def pRev : List T → Option Ent := fun ts => match ts with
  | [.lst _ xs] => if T.isFA xs = true then some (.own (.lst true xs.reverse)) else none
  | [.tup xs] => some (.own (.tup xs.reverse))
  | _ => none
theorem owA_rev {ca : Ks} {H Z : Hp} {xs : List V} {us : List T} (A : OwA ca H Z xs us []) : OwA ca H Z xs.reverse us.reverse [] := by
  obtain ⟨zs, rfl, rfl, hz⟩ := owA_zip A
  rw [← List.map_reverse, ← List.map_reverse]
  exact owA_of fun z h => hz z (List.mem_reverse.mp h)
section
variable [Tb]
theorem pr_rev {ca : Ks} {K : PySem.W.Frag} : Prim ca (r1L (rRev K)) pRev := ⟨fun P Z H w vs ts Q b o h => by
  unfold pRev at h
  split at h
  · rename_i oo us
    obtain ⟨v, g, rfl, h1⟩ := o.i1
    obtain ⟨a, xs, f, rfl, e1, A⟩ := ow_lst b h1
    split at h
    · rename_i q
      exact ⟨a, xs, rfl, .inl ⟨SqL.of e1, fun p hp => Res.lst h b hp (owA_rev (A.froz q))⟩⟩
    · exact h.elim
  · rename_i us
    obtain ⟨v, g, rfl, h1⟩ := o.i1
    obtain ⟨a, xs, rfl, e1, _, A⟩ := ow_tup b h1
    exact ⟨a, xs, rfl, .inr ⟨SqT.of e1, fun p hp => Res.tup h b hp (owA_rev A)⟩⟩
  · exact h.elim⟩
end
end Rm
/-! Rm, part ZK: [.. for k in d ..], the keys tuples; f(k = v, ..) of a def that only reads. -/
/-! Rm, part ZL: steps of the new meanings. -/
/-! Rm, part ZM: xs.index(k), xs a name of a list of whole numbers that is only looked at. -/
/-! Rm, part ZO: x in t, x not in t, for data of any depth, t a tuple or a list. -/
namespace Rm
open PySem PySem.Spec L2
open PyProof.Rows hiding St
def rMemD (neg : Bool) : R2 := fun x y H Q => ∃ d ds, Dr H x d ∧ (Dr H y (.list ds) ∨ Dr H y (.tuple ds)) ∧ SeqAt.shaped d = true ∧ SeqAt.shaped (.tuple ds) = true ∧ d.depth ≤ 60 ∧ Q (.bl (if neg then !(ds.any fun z => PyData.eqv z d) else ds.any fun z => PyData.eqv z d)) H
theorem shaped_lt {ds : List PyData} (h : SeqAt.shaped (.tuple ds) = true) : SeqAt.shaped (.list ds) = true := by
  simp only [SeqAt.shaped, PyData.canLay0, PyData.depth, Bool.and_eq_true, decide_eq_true_eq] at h ⊢
  exact h
theorem op_memIn {X : Cx} (hu : X.A.units + 64 < cLine) : OpR X (compareOp .In) (rMemD false) := by
  intro pins s σ H x y v u Q I rx ry h
  obtain ⟨d, ds, hd, he, sd, se, dd, q⟩ := h
  have hroom : X.A.units + 1 + min (PyData.depthAll ds) d.depth < cLine := by have := Nat.min_le_right (PyData.depthAll ds) d.depth; omega
  have cd := SeqAt.canLay_of_shaped sd
  have sl := shaped_lt se
  obtain ⟨as, r1⟩ := Dp.reads I d x v (Dr.dp _ _ hd cd) rx
  rcases he with he | he
  · obtain ⟨bs, r2⟩ := Dp.reads I (.list ds) y u (Dr.dp _ _ he (SeqAt.canLay_of_shaped sl)) ry
    exact SeqAt.in_list_reads r2 r1 (SeqAt.canLay_of_shaped sl) cd hroom ⟨.bl _, H, I, rfl, q⟩
  · obtain ⟨bs, r2⟩ := Dp.reads I (.tuple ds) y u (Dr.dp _ _ he (SeqAt.canLay_of_shaped se)) ry
    exact SeqAt.in_tuple_reads r2 r1 (SeqAt.canLay_of_shaped se) cd hroom ⟨.bl _, H, I, rfl, q⟩
def memDx (neg : Bool) (d : PyData) (ds : List PyData) : Option Ent := if (SeqAt.shaped d && SeqAt.shaped (.tuple ds) && Nat.ble d.depth 60) = true then some (.own (.bl (if neg then !(ds.any fun z => PyData.eqv z d) else ds.any fun z => PyData.eqv z d))) else none
def pMemD (neg : Bool) : List T → Option Ent := fun ts => match ts with
  | [x, y] => (match x.data, y.data with
    | some d, some (.tuple ds) => memDx neg d ds
    | some d, some (.list ds) => memDx neg d ds
    | _, _ => none)
  | _ => none
theorem pr_memD {ca : Ks} (neg : Bool) : Prim ca (r2L (rMemD neg)) (pMemD neg) := ⟨fun P Z H w vs ts Q b o h => by
  unfold pMemD at h
  split at h
  · rename_i x y
    obtain ⟨v, g, u, f, rfl, h1, h2⟩ := o.i2
    split at h
    · rename_i d ds ed ee
      unfold memDx at h
      split at h
      · rename_i q
        simp only [Bool.and_eq_true] at q
        exact ⟨d, ds, h1.dr b.z ed, .inr (h2.dr b.z ee), q.1.1, q.1.2, Nat.le_of_ble_eq_true q.2, h.now b (.own (.bl _))⟩
      · exact h.elim
    · rename_i d ds ed ee
      unfold memDx at h
      split at h
      · rename_i q
        simp only [Bool.and_eq_true] at q
        exact ⟨d, ds, h1.dr b.z ed, .inl (h2.dr b.z ee), q.1.1, q.1.2, Nat.le_of_ble_eq_true q.2, h.now b (.own (.bl _))⟩
      · exact h.elim
    · exact h.elim
  · exact h.elim⟩
end Rm
/-! Rm, part TA: texts: split, join, startswith, upper, str(x), star displays, enumerate of a value. -/
namespace Rm
open PySem PySem.Spec L2
open PyProof.Rows hiding St
theorem ow_strsV {ca : Ks} {H Z : Hp} : ∀ {ns : List Str} {xs : List V} {f : List Addr}, OwA ca H Z xs (ns.map T.str) f → xs = ns.map V.str
  | [], _, _, .nil => rfl
  | n :: ns, _, _, .cons h A => by rw [ow_str h, ow_strsV A]; rfl
/-! ### a method of a text with one argument -/
def mM1 (p : List T → Option Ent) (m1 m2 : List Ent → R Ent) : List Ent → R Ent := fun ρ => (m1 ρ).bind fun e ρ1 => match e.t with
  | .str a => (m2 ρ1).bind fun e2 ρ2 => (match p [.str a, e2.t] with
    | some x => .ok x ρ2
    | none => .fail)
  | _ => .fail
def rM1 (r : V → List V → Hp → VK → Prop) : List V → Hp → VK → Prop := fun vs H Q => match vs with
  | [x, y] => r x [y] H Q
  | _ => False
def rM0 (r : V → List V → Hp → VK → Prop) : List V → Hp → VK → Prop := fun vs H Q => match vs with
  | [x] => r x [] H Q
  | _ => False
section
variable [Tb]
theorem EntV.str {ca : Ks} {H Z : Hp} {v : V} {e : Ent} {fp : List Addr} {a : Str} (h : EntV ca H Z v e fp) (q : e.t = .str a) : v = .str a := by
  cases h with
  | own h => dsimp only [Ent.t] at q; subst q; exact ow_str h
  | vw h => dsimp only [Ent.t] at q; subst q; exact ow_str h
section
variable {c : VC} {W : WX} {r1 r2 : Bool} {t1 t2 : TE} {m1 m2 : List Ent → R Ent} {p : List T → Option Ent} {r : V → List V → Hp → VK → Prop}
theorem SV.met1 (pr : Prim c.ca (rM1 r) p) (h1 : SV c W r1 t1 m1) (h2 : SV c W r2 t2 m2) : SV c W (r1 && r2) (tM1 r t1 t2) (mM1 p m1 m2) := by
  refine ⟨fun M P Z H σ ρ w Q mp b s hf => ?_⟩
  unfold tM1
  refine h1.go M P Z H σ ρ w _ mp b s ?_
  unfold mM1 at hf
  cases e1 : m1 ρ with
  | fail => rw [e1] at hf; exact hf
  | err C d ρ' => rw [e1] at hf; exact hf
  | ok e ρ1 =>
    rw [e1] at hf
    dsimp only [R.bind] at hf
    intro v H1 Z1 fp w1 z1 n1 b1 ev s1 ro
    split at hf
    rotate_left
    · exact hf.elim
    rename_i a ea
    obtain rfl := ev.str ea
    refine ⟨⟨a, rfl⟩, h2.go M P Z1 H1 σ ρ1 w1 _ mp b1.drop s1 ?_⟩
    cases e2 : m2 ρ1 with
    | fail => rw [e2] at hf; exact hf
    | err C d ρ' =>
      rw [e2] at hf
      intro x vd H2 Z2 w2 z2 n2 b2 hx ov s2
      exact hf x vd H2 Z2 w2 (z1.trans z2) (n1.trans n2) b2 hx ov s2
    | ok en ρ2 =>
      rw [e2] at hf
      dsimp only [R.bind] at hf
      intro v2 H2 Z2 fp2 w2 z2 n2 b2 ev2 s2 ro2
      have evs : EntVs c.ca H2 Z2 [V.str a, v2] [.own (.str a), en] ([] ++ (fp2 ++ [])) := .cons (.own (.str a)) (.cons ev2 .nil)
      refine pr.go P Z2 H2 w2 [V.str a, v2] [.str a, en.t] Q b2.drop evs.ow ?_
      split at hf
      · rename_i x q
        rw [q]
        intro v3 H3 Z3 fp3 x3 z3 n3 b3 ev3
        exact hf v3 H3 Z3 fp3 w2 ((z1.trans z2).trans z3) ((n1.trans n2).trans n3) b3 ev3 (s2.mono z3 fun a q o y => x3 a o y) fun q => by
          simp only [Bool.and_eq_true] at q
          exact ⟨((ro q.1).1.trans (ro2 q.2).1).trans x3, (ro2 q.2).2.trans (ro q.1).2⟩
      · exact hf.elim
def mM0 (p : List T → Option Ent) (m1 : List Ent → R Ent) : List Ent → R Ent := fun ρ => (m1 ρ).bind fun e ρ1 => match e.t with
  | .str a => (match p [.str a] with
    | some x => .ok x ρ1
    | none => .fail)
  | _ => .fail
theorem SV.met0 (pr : Prim c.ca (rM0 r) p) (h1 : SV c W r1 t1 m1) : SV c W r1 (tM0 r t1) (mM0 p m1) := by
  refine ⟨fun M P Z H σ ρ w Q mp b s hf => ?_⟩
  unfold tM0
  refine h1.go M P Z H σ ρ w _ mp b s ?_
  unfold mM0 at hf
  cases e1 : m1 ρ with
  | fail => rw [e1] at hf; exact hf
  | err C d ρ' => rw [e1] at hf; exact hf
  | ok e ρ1 =>
    rw [e1] at hf
    dsimp only [R.bind] at hf
    intro v H1 Z1 fp w1 z1 n1 b1 ev s1 ro
    split at hf
    rotate_left
    · exact hf.elim
    rename_i a ea
    obtain rfl := ev.str ea
    have evs : EntVs c.ca H1 Z1 [V.str a] [.own (.str a)] ([] ++ []) := .cons (.own (.str a)) .nil
    refine ⟨⟨a, rfl⟩, pr.go P Z1 H1 w1 [V.str a] [.str a] Q b1.drop evs.ow ?_⟩
    split at hf
    · rename_i x q
      rw [q]
      intro v3 H3 Z3 fp3 x3 z3 n3 b3 ev3
      exact hf v3 H3 Z3 fp3 w1 (z1.trans z3) (n1.trans n3) b3 ev3 (s1.mono z3 fun a q o y => x3 a o y) fun q => ⟨(ro q).1.trans x3, (ro q).2⟩
    · exact hf.elim
end
/-! ### the methods -/
def pSplit : List T → Option Ent := fun ts => match ts with
  | [.str a, .str b] => if ((b.length == 0) = false ∧ Nat.ble (a.length + 2) sizeLine = true) then some (.own (.lst true ((Txt.split a b).map T.str))) else none
  | _ => none
theorem pr_split {ca : Ks} : Prim ca (rM1 fun x xs H Q => ∃ a b, x = .str a ∧ xs = [.str b] ∧ (b.length == 0) = false ∧ a.length + 2 ≤ sizeLine ∧ rNewStrs (Txt.split a b) H Q) pSplit := ⟨fun P Z H w vs ts Q b o h => by
  unfold pSplit at h
  split at h
  rotate_left
  · exact h.elim
  rename_i x y
  obtain ⟨v1, g1, v2, g2, rfl, h1, h2⟩ := o.i2
  obtain rfl := ow_str h1
  obtain rfl := ow_str h2
  split at h
  · rename_i q
    exact ⟨x, y, rfl, rfl, q.1, Nat.le_of_ble_eq_true q.2, fun p hp => h.lst b hp (owA_strs _)⟩
  · exact h.elim⟩
def joinL (a : Str) (us : List T) : Option Ent := match strsU us with
  | some ys => if Nat.ble ((ys.map (·.length)).sum + ys.length * a.length) 16777216 = true then some (.own (.str (Txt.join a ys))) else none
  | none => none
def pJoin : List T → Option Ent := fun ts => match ts with
  | [.str a, .lst _ us] => joinL a us
  | [.str a, .tup us] => joinL a us
  | _ => none
abbrev rJoinK (K : PySem.W.Frag) : V → List V → Hp → VK → Prop := fun x xs H Q => ∃ a p, ∃ ys : List Str, x = .str a ∧ xs = [.ref p] ∧ (SqL K H p (ys.map V.str) ∨ SqT K H p (ys.map V.str)) ∧ (ys.map (·.length)).sum + ys.length * a.length ≤ 16777216 ∧ Q (.str (Txt.join a ys)) H
theorem pr_join {ca : Ks} {K : PySem.W.Frag} : Prim ca (rM1 (rJoinK K)) pJoin := ⟨fun P Z H w vs ts Q b o h => by
  unfold pJoin joinL at h
  split at h
  · rename_i a oo us
    obtain ⟨v1, g1, v2, g2, rfl, h1, h2⟩ := o.i2
    obtain rfl := ow_str h1
    obtain ⟨p, xs, _, rfl, ep, A⟩ := ow_lst b h2
    split at h
    rotate_left
    · exact h.elim
    rename_i ys ey
    split at h
    rotate_left
    · exact h.elim
    rename_i q
    rw [strsU_map ey] at A
    obtain rfl := ow_strsV A
    exact ⟨a, p, ys, rfl, rfl, .inl (SqL.of ep), Nat.le_of_ble_eq_true q, h.now b (.own (.str _))⟩
  · rename_i a us
    obtain ⟨v1, g1, v2, g2, rfl, h1, h2⟩ := o.i2
    obtain rfl := ow_str h1
    obtain ⟨p, xs, rfl, ep, _, A⟩ := ow_tup b h2
    split at h
    rotate_left
    · exact h.elim
    rename_i ys ey
    split at h
    rotate_left
    · exact h.elim
    rename_i q
    rw [strsU_map ey] at A
    obtain rfl := ow_strsV A
    exact ⟨a, p, ys, rfl, rfl, .inr (SqT.of ep), Nat.le_of_ble_eq_true q, h.now b (.own (.str _))⟩
  · exact h.elim⟩
def pStarts : List T → Option Ent := fun ts => match ts with
  | [.str a, .str b] => some (.own (.bl (Txt.startswith a b)))
  | _ => none
theorem pr_starts {ca : Ks} : Prim ca (rM1 fun x xs H Q => ∃ a b, x = .str a ∧ xs = [.str b] ∧ Q (.bl (Txt.startswith a b)) H) pStarts := ⟨fun P Z H w vs ts Q b o h => by
  unfold pStarts at h
  split at h
  rotate_left
  · exact h.elim
  obtain ⟨v1, g1, v2, g2, rfl, h1, h2⟩ := o.i2
  obtain rfl := ow_str h1
  obtain rfl := ow_str h2
  exact ⟨_, _, rfl, rfl, h.now b (.own (.bl _))⟩⟩
def pUpper : List T → Option Ent := fun ts => match ts with
  | [.str a] => if Nat.ble a.length 5592405 = true then some (.own (.str (Txt.upper a))) else none
  | _ => none
theorem pr_upper {ca : Ks} : Prim ca (rM0 fun x xs H Q => ∃ a, x = .str a ∧ xs = [] ∧ a.length ≤ 5592405 ∧ Q (.str (Txt.upper a)) H) pUpper := ⟨fun P Z H w vs ts Q b o h => by
  unfold pUpper at h
  split at h
  rotate_left
  · exact h.elim
  obtain ⟨v1, g1, rfl, h1⟩ := o.i1
  obtain rfl := ow_str h1
  split at h
  · rename_i q
    exact ⟨_, rfl, rfl, Nat.le_of_ble_eq_true q, h.now b (.own (.str _))⟩
  · exact h.elim⟩
/-! ### str(x) -/
def rStr : List V → Hp → VK → Prop := fun xs H Q => (∃ i : Int, xs = [.int i] ∧ i.natAbs.log2 < 1920 ∧ Q (.str (toString i)) H) ∨ (∃ a, xs = [.str a] ∧ Q (.str a) H)
theorem call_strX {X : Cx} : CallR X (.type "str") rStr := by
  intro pins s σ H vs us Q I r h
  rcases h with h | h
  · exact call_str_int pins s σ H vs us Q I r h
  · exact SkE.call_str_str pins s σ H vs us Q I r h
def pStr : List T → Option Ent := fun ts => match ts with
  | [.int i] => if Nat.ble i.natAbs.log2 1919 = true then some (.own (.str (toString i))) else none
  | [.str a] => some (.own (.str a))
  | _ => none
theorem pr_str {ca : Ks} : Prim ca rStr pStr := ⟨fun P Z H w vs ts Q b o h => by
  unfold pStr at h
  split at h
  · obtain ⟨v1, g1, rfl, h1⟩ := o.i1
    obtain rfl := ow_int h1
    split at h
    · rename_i q
      exact .inl ⟨_, rfl, Nat.lt_succ_of_le (Nat.le_of_ble_eq_true q), h.now b (.own (.str _))⟩
    · exact h.elim
  · obtain ⟨v1, g1, rfl, h1⟩ := o.i1
    obtain rfl := ow_str h1
    exact .inr ⟨_, rfl, h.now b (.own (.str _))⟩
  · exact h.elim⟩
/-! ### int(text) -/
def rInt2 : List V → Hp → VK → Prop := fun xs H Q => rInt xs H Q ∨ ∃ a n, xs = [.str a] ∧ PySem.intText? a = some n ∧ a.length ≤ 640 ∧ Q (.int n) H
theorem callInt2 {X : Cx} : CallR X (.type "int") rInt2 := by
  intro pins s σ H vs us Q I r h
  rcases h with h | h
  · exact callInt pins s σ H vs us Q I r h
  · exact call_int_str pins s σ H vs us Q I r h
def pInt2 : List T → Option Ent := fun ts => match ts with
  | [.str a] => (match PySem.intText? a with
    | some n => if Nat.ble a.length 640 = true then some (.own (.int n)) else none
    | none => none)
  | ts => pInt ts
theorem pr_int2 {ca : Ks} : Prim ca rInt2 pInt2 := ⟨fun P Z H w vs ts Q b o h => by
  unfold pInt2 at h
  split at h
  · obtain ⟨v1, g1, rfl, h1⟩ := o.i1
    obtain rfl := ow_str h1
    split at h
    rotate_left
    · exact h.elim
    rename_i n e
    split at h
    · rename_i q
      exact .inr ⟨_, _, rfl, e, Nat.le_of_ble_eq_true q, h.now b (.own (.int _))⟩
    · exact h.elim
  · exact .inl (pr_int.go P Z H w vs _ Q b o h)⟩
end
end Rm
/-! Rm, part TB: star displays, f-strings, enumerate of a value. -/
namespace Rm
open PySem PySem.Spec L2
open PyProof.Rows hiding St
/-- the items of a list or a tuple, when nothing in them is own -/
def starI : T → Option (List T)
  | .lst _ us => if T.isFA us = true then some us else none
  | .tup us => if T.isFA us = true then some us else none
  | _ => none
def mStar (m : List Ent → R Ent) (ms : List Ent → R (List Ent)) : List Ent → R (List Ent) := fun ρ => (m ρ).bind fun e ρ1 => match starI e.t with
  | some us => (ms ρ1).bind fun es ρ2 => .ok (us.map Ent.own ++ es) ρ2
  | none => .fail
theorem owns_evs {ca : Ks} {H Z : Hp} {f : List Addr} {es : List Ent} : ∀ {xs ys : List V} {us : List T}, OwA ca H Z xs us [] → EntVs ca H Z ys es f → EntVs ca H Z (xs ++ ys) (us.map Ent.own ++ es) f
  | _, _, _, A, B => by
    generalize hg : ([] : List Addr) = g at A
    induction A using OwA.rec (motive_1 := fun _ _ _ _ => True) with
    | nil => exact B
    | cons h A _ ih =>
      obtain ⟨rfl, rfl⟩ := List.append_eq_nil_iff.mp hg.symm
      exact EntVs.cons (f := []) (.own h) (ih rfl)
    | _ => trivial
section
variable [Tb]
variable {c : VC} {W : WX} {K : PySem.W.Frag} {r1 r2 : Bool} {t : TE} {ta : TA} {m : List Ent → R Ent} {ms : List Ent → R (List Ent)}
theorem SA.star (h1 : SV c W r1 t m) (h2 : SA c W r2 ta ms) : SA c W (r1 && r2) (StX.tStar K t ta) (mStar m ms) := by
  refine ⟨fun M P Z H σ ρ w Q mp b s hf => ?_⟩
  unfold StX.tStar
  refine h1.go M P Z H σ ρ w _ mp b s ?_
  unfold mStar at hf
  cases e1 : m ρ with
  | fail => rw [e1] at hf; exact hf
  | err C d ρ' => rw [e1] at hf; exact hf
  | ok e ρ1 =>
    rw [e1] at hf
    dsimp only [R.bind] at hf
    intro v H1 Z1 fp w1 z1 n1 b1 ev s1 ro
    split at hf
    rotate_left
    · exact hf.elim
    rename_i us eu
    have key : ∃ a xs, v = V.ref a ∧ (SqT K H1 a xs ∨ SqL K H1 a xs) ∧ OwA c.ca H1 Z1 xs us [] := by
      have go : ∀ {g : List Addr} {tr : T}, Ow c.ca H1 Z1 v tr g → starI tr = some us → ∃ a xs, v = V.ref a ∧ (SqT K H1 a xs ∨ SqL K H1 a xs) ∧ OwA c.ca H1 Z1 xs us [] := fun {g tr} o q => by
        unfold starI at q
        split at q
        · split at q
          · rename_i hi
            cases q
            obtain ⟨a, xs, f, rfl, ea, A⟩ := ow_lst b1.drop o
            obtain rfl := A.nof hi
            exact ⟨a, xs, rfl, .inr (SqL.of ea), A⟩
          · cases q
        · split at q
          · rename_i hi
            cases q
            obtain ⟨a, xs, rfl, ea, _, A⟩ := ow_tup b1.drop o
            exact ⟨a, xs, rfl, .inl (SqT.of ea), A⟩
          · cases q
        · cases q
      cases ev with
      | own o => exact go o eu
      | vw o => exact go o eu
    obtain ⟨a, xs, rfl, hs, A⟩ := key
    refine ⟨a, xs, rfl, hs, h2.go M P Z1 H1 σ ρ1 w1 _ mp b1.drop s1 ?_⟩
    cases e2 : ms ρ1 with
    | fail => rw [e2] at hf; exact hf
    | err C d ρ' =>
      rw [e2] at hf
      intro x vd H2 Z2 w2 z2 n2 b2 hx ov s2
      exact hf x vd H2 Z2 w2 (z1.trans z2) (n1.trans n2) b2 hx ov s2
    | ok es ρ2 =>
      rw [e2] at hf
      dsimp only [R.bind] at hf
      intro vs H2 Z2 fp2 w2 z2 n2 b2 ev2 s2 ro2
      refine hf (xs ++ vs) H2 Z2 fp2 w2 (z1.trans z2) (n1.trans n2) b2 (owns_evs (A.mono z2 fun _ q => nomatch q) ev2) s2 fun q => ?_
      simp only [Bool.and_eq_true] at q
      exact ⟨(ro q.1).1.trans (ro2 q.2).1, (ro2 q.2).2.trans (ro q.1).2⟩
/-! ### f-strings -/
/-! ### enumerate of a value -/
def mEnV (m : List Ent → R Ent) : List Ent → R (List T) := fun ρ => (m ρ).bind fun e ρ1 => match e.fz with
  | some (.lst _ ts) => .ok (enumT 0 ts) ρ1
  | _ => .fail
theorem SI.enumV (h : SV c W r1 t m) : SI c W (iEnum K (tCons t tNil)) (mEnV m) := by
  refine ⟨fun M P Z H σ ρ w Q mp b s hf => ?_⟩
  unfold iEnum tCons tNil
  refine h.go M P Z H σ ρ w _ mp b s ?_
  unfold mEnV at hf
  cases e : m ρ with
  | fail => rw [e] at hf; exact hf
  | err C d ρ' => rw [e] at hf; exact hf
  | ok en ρ' =>
    rw [e] at hf
    dsimp only [R.bind] at hf
    intro v H1 Z1 fp w1 z1 n1 b1 ev s1 ro
    cases q : en.fz with
    | none => rw [q] at hf; exact hf.elim
    | some tr =>
      rw [q] at hf
      have o := ev.fz (Z' := fzZ fp H1 Z1) (fzZ_ext b1) (fun a y => fzZ_in a y) q
      have b2 := b1.fz
      cases tr with
      | lst ow ts =>
        dsimp only at hf
        cases o with
        | @lstF a xs _ ez A =>
          have hs : ∀ H', Ext (fzZ fp H1 Z1) H' → SqL K H' a xs := fun H' z => Or.inl (rdo_rd (rdo_of (z _ _ ez) fun _ _ z => nomatch z))
          refine ⟨a, xs, rfl, hs H1 b2.z, ?_⟩
          refine hf _ H1 _ w1 (z1.trans (fzZ_ext b1)) (n1.trans (fzZ_zn b1)) b2 (s1.mono (fzZ_ext b1) fun _ _ _ y => y) ?_
          unfold IterOk
          rw [enumT_len, ← A.length]
          refine walk_enum.mono (fun H' q => hs H' q.1) fun i H1 x H2 hi _ y => ?_
          obtain ⟨p, x1, x2, rfl, hp, rfl, e1, e2⟩ := y
          cases e1
          obtain ⟨t, et, ot⟩ := A.get0 e2
          refine ⟨.tup [.int (i : Nat), t], by rw [enumT_get, et]; simp, Or.inr (Or.inl ⟨p, _, _, rfl, hp, rfl, rfl, ?_⟩)⟩
          exact .cons (f := []) (g := []) (.int _) (.cons (f := []) (g := []) ot.any .nil)
      | _ => exact hf.elim
end
end Rm
namespace Rm
open PySem PySem.Spec L2
open PyProof.Rows hiding St
abbrev topS (i : Nat) : Stmt := PySem.Challenge.pw_rowmarks_k90_texts_that_are_no_histories.main.body.getD i (.Pass ⟨0, 0, 0, 0⟩)
abbrev s_number_in : Stmt := topS 25
theorem sc_number_in : FnScope ["word", "sign"] ["word"] (defScope s_number_in) := ⟨rfl, rfl, rfl, by decide +kernel, rfl, by decide +kernel, by decide +kernel⟩
abbrev s_value_in : Stmt := topS 26
theorem sc_value_in : FnScope ["word", "found"] ["word"] (defScope s_value_in) := ⟨rfl, rfl, rfl, by decide +kernel, rfl, by decide +kernel, by decide +kernel⟩
abbrev s_is_integer : Stmt := topS 11
theorem sc_is_integer : FnScope ["value"] ["value"] (defScope s_is_integer) := ⟨rfl, rfl, rfl, by decide +kernel, rfl, by decide +kernel, by decide +kernel⟩
abbrev s_is_from_to : Stmt := topS 12
theorem sc_is_from_to : FnScope ["value", "least", "most"] ["value", "least", "most"] (defScope s_is_from_to) := ⟨rfl, rfl, rfl, by decide +kernel, rfl, by decide +kernel, by decide +kernel⟩
abbrev s_is_name : Stmt := topS 13
theorem sc_is_name : FnScope ["value", "sign"] ["value"] (defScope s_is_name) := ⟨rfl, rfl, rfl, by decide +kernel, rfl, by decide +kernel, by decide +kernel⟩
abbrev s_is_mode : Stmt := topS 5
theorem sc_is_mode : FnScope ["value"] ["value"] (defScope s_is_mode) := ⟨rfl, rfl, rfl, by decide +kernel, rfl, by decide +kernel, by decide +kernel⟩
abbrev s_is_change_mode : Stmt := topS 6
theorem sc_is_change_mode : FnScope ["value"] ["value"] (defScope s_is_change_mode) := ⟨rfl, rfl, rfl, by decide +kernel, rfl, by decide +kernel, by decide +kernel⟩
abbrev s_is_value : Stmt := topS 14
theorem sc_is_value : FnScope ["value"] ["value"] (defScope s_is_value) := ⟨rfl, rfl, rfl, by decide +kernel, rfl, by decide +kernel, by decide +kernel⟩
abbrev s_is_request : Stmt := topS 20
theorem sc_is_request : FnScope ["value"] ["value"] (defScope s_is_request) := ⟨rfl, rfl, rfl, by decide +kernel, rfl, by decide +kernel, by decide +kernel⟩
abbrev s_is_operation : Stmt := topS 21
theorem sc_is_operation : FnScope ["value"] ["value"] (defScope s_is_operation) := ⟨rfl, rfl, rfl, by decide +kernel, rfl, by decide +kernel, by decide +kernel⟩
abbrev s_operation_in : Stmt := topS 27
theorem sc_operation_in : FnScope ["line", "words", "found"] ["line"] (defScope s_operation_in) := ⟨rfl, rfl, rfl, by decide +kernel, rfl, by decide +kernel, by decide +kernel⟩
abbrev s_read_history : Stmt := topS 28
theorem sc_read_history : FnScope ["text", "found", "at", "line", "operation"] ["text"] (defScope s_read_history) := ⟨rfl, rfl, rfl, by decide +kernel, rfl, by decide +kernel, by decide +kernel⟩
def F_number_in : List Ent → R Ent := mDef [true] 1 (mThen (mIf (mBr (mBr (mTest T.bool (mChain pLe pLe true (mC (.int (1))) (mPrim pLen (mCons true (mName 0) mNil)) (mC (.int (30))))) (mPure false) (mPure true)) (mPure true) (mBr (mTest T.tru (mPrim pAll (mCons true (mLc [1] (mItV (mName 0)) (gmName 1) (mPure true) (mOp pInT true (mName 1) (mC (.str "0123456789")))) mNil))) (mPure false) (mPure true))) (mRet (mC .non)) .nx)
  (mRet (mBr (mBr (mTest T.bool (mOp pGt true (mPrim pLen (mCons true (mName 0) mNil)) (mC (.int (1))))) (mTest T.bool (mOp pEq2 true (mOp pItem true (mName 0) (mC (.int (0)))) (mC (.str "0")))) (mPure false)) (mC .non) (mPrim pInt2 (mCons true (mName 0) mNil)))))
theorem ln_number_in : ∀ ρ, ρ.length ≠ 1 → F_number_in ρ = .fail := mDef_len (bs := [true])
def F_value_in : List Ent → R Ent := mDef [true] 1 (mThen (mIf (mBr (mTest T.tru (mM1 pStarts (mName 0) (mC (.str "-")))) (mPure false) (mPure true)) (mRet (mCallR F_number_in (mCons true (mName 0) mNil))) .nx)
  (mThen (mSet 1 (mCallR F_number_in (mCons true (mSlice (mName 0) (mPart (mC (.int (1)))) (mPure none)) mNil)))
  (mRet (mBr (mBr (mTest T.bool (mOp pIs true (mName 1) (mC .non))) (mPure true) (mTest T.bool (mOp pEq2 true (mName 1) (mC (.int (0)))))) (mC .non) (mPrim pNeg (mCons true (mName 1) mNil))))))
theorem ln_value_in : ∀ ρ, ρ.length ≠ 1 → F_value_in ρ = .fail := mDef_len (bs := [true])
def F_is_integer : List Ent → R Ent := mDef [true] 0 (mRet (mBr (mBool (mPrim (pIsi "int") (mCons true (mName 0) mNil))) (mBr (mBool (mPrim (pIsi "bool") (mCons true (mName 0) mNil))) (mC (.bl false)) (mC (.bl true))) (mC (.bl false))))
theorem ln_is_integer : ∀ ρ, ρ.length ≠ 1 → F_is_integer ρ = .fail := mDef_len (bs := [true])
def F_is_from_to : List Ent → R Ent := mDef [true, true, true] 0 (mRet (mBr (mBool (mCallR F_is_integer (mCons true (mName 0) mNil))) (mChain pLe pLe true (mName 1) (mName 0) (mName 2)) (mC (.bl false))))
theorem ln_is_from_to : ∀ ρ, ρ.length ≠ 3 → F_is_from_to ρ = .fail := mDef_len (bs := [true, true, true])
def F_is_name : List Ent → R Ent := mDef [true] 1 (mRet (mBr (mBool (mPrim (pIsi "str") (mCons true (mName 0) mNil))) (mBr (mBool (mChain pLe pLe true (mC (.int (1))) (mPrim pLen (mCons true (mName 0) mNil)) (mC (.int (6))))) (mPrim pAll (mCons true (mLc [1] (mItV (mName 0)) (gmName 1) (mPure true) (mOp pInT true (mName 1) (mC (.str "abcdefghijklmnopqrstuvwxyz")))) mNil)) (mC (.bl false))) (mC (.bl false))))
theorem ln_is_name : ∀ ρ, ρ.length ≠ 1 → F_is_name ρ = .fail := mDef_len (bs := [true])
def F_is_mode : List Ent → R Ent := mDef [true] 0 (mRet (mBr (mBool (mPrim (pIsi "str") (mCons true (mName 0) mNil))) (mPrim (pInC false [(V.str "hold"), (V.str "keep"), (V.str "change"), (V.str "replace")]) (mCons true (mName 0) mNil)) (mC (.bl false))))
theorem ln_is_mode : ∀ ρ, ρ.length ≠ 1 → F_is_mode ρ = .fail := mDef_len (bs := [true])
def F_is_change_mode : List Ent → R Ent := mDef [true] 0 (mRet (mBr (mBool (mPrim (pIsi "str") (mCons true (mName 0) mNil))) (mPrim (pInC false (cutV [(V.str "hold"), (V.str "keep"), (V.str "change"), (V.str "replace")] (some 2) none)) (mCons true (mName 0) mNil)) (mC (.bl false))))
theorem ln_is_change_mode : ∀ ρ, ρ.length ≠ 1 → F_is_change_mode ρ = .fail := mDef_len (bs := [true])
def F_is_value : List Ent → R Ent := mDef [true] 0 (mRet (mBr (mBool (mCallR F_is_integer (mCons true (mName 0) mNil))) (mOp pLt true (mPrim pAbs (mCons true (mName 0) mNil)) (mC (.int (1000000000000000000000000000000)))) (mC (.bl false))))
theorem ln_is_value : ∀ ρ, ρ.length ≠ 1 → F_is_value ρ = .fail := mDef_len (bs := [true])
def F_is_request : List Ent → R Ent := mDef [true] 0 (mThen (mIf (mBr (mTest T.bool (mOp pEq2 true (mOp pItem true (mName 0) (mC (.int (0)))) (mC (.str "lock")))) (mTest T.bool (mOp pEq2 true (mPrim pLen (mCons true (mName 0) mNil)) (mC (.int (4))))) (mPure false)) (mRet (mBr (mBool (mCallR F_is_name (mCons true (mOp pItem true (mName 0) (mC (.int (2)))) mNil))) (mCallR F_is_mode (mCons true (mOp pItem true (mName 0) (mC (.int (3)))) mNil)) (mC (.bl false)))) .nx)
  (mThen (mIf (mBr (mTest T.bool (mOp pEq2 true (mOp pItem true (mName 0) (mC (.int (0)))) (mC (.str "change")))) (mTest T.bool (mOp pEq2 true (mPrim pLen (mCons true (mName 0) mNil)) (mC (.int (5))))) (mPure false)) (mRet (mBr (mBool (mCallR F_is_name (mCons true (mOp pItem true (mName 0) (mC (.int (2)))) mNil))) (mBr (mBool (mCallR F_is_change_mode (mCons true (mOp pItem true (mName 0) (mC (.int (3)))) mNil))) (mCallR F_is_value (mCons true (mOp pItem true (mName 0) (mC (.int (4)))) mNil)) (mC (.bl false))) (mC (.bl false)))) .nx)
  (mRet (mC (.bl false)))))
theorem ln_is_request : ∀ ρ, ρ.length ≠ 1 → F_is_request ρ = .fail := mDef_len (bs := [true])
def F_is_operation : List Ent → R Ent := mDef [true] 0 (mThen (mIf (mBr (mBr (mTest T.tru (mPrim (pIsi "tuple") (mCons true (mName 0) mNil))) (mPure false) (mPure true)) (mPure true) (mBr (mTest T.bool (mOp pEq2 true (mName 0) (mSeq true mNil))) (mPure true) (mBr (mTest T.tru (mPrim (pIsi "str") (mCons true (mOp pItem true (mName 0) (mC (.int (0)))) mNil))) (mPure false) (mPure true)))) (mRet (mC (.bl false))) .nx)
  (mThen (mIf (mTest T.bool (mPrim (pInC false [(V.str "begin"), (V.str "crash"), (V.str "clean")]) (mCons true (mOp pItem true (mName 0) (mC (.int (0)))) mNil))) (mRet (mOp pEq2 true (mPrim pLen (mCons true (mName 0) mNil)) (mC (.int (1))))) .nx)
  (mThen (mIf (mTest T.bool (mOp pLt true (mPrim pLen (mCons true (mName 0) mNil)) (mC (.int (2))))) (mRet (mC (.bl false))) .nx)
  (mThen (mIf (mTest T.bool (mOp pEq2 true (mOp pItem true (mName 0) (mC (.int (0)))) (mC (.str "horizon")))) (mRet (mBr (mBool (mOp pEq2 true (mPrim pLen (mCons true (mName 0) mNil)) (mC (.int (2))))) (mCallR F_is_from_to (mCons true (mOp pItem true (mName 0) (mC (.int (1)))) (mCons true (mC (.int (0))) (mCons true (mC (.int (60))) mNil)))) (mC (.bl false)))) .nx)
  (mThen (mIf (mBr (mTest T.tru (mCallR F_is_from_to (mCons true (mOp pItem true (mName 0) (mC (.int (1)))) (mCons true (mC (.int (1))) (mCons true (mC (.int (1000000))) mNil))))) (mPure false) (mPure true)) (mRet (mC (.bl false))) .nx)
  (mRet (mBr (mTest T.bool (mPrim (pInC false [(V.str "save"), (V.str "release"), (V.str "back"), (V.str "commit"), (V.str "abort"), (V.str "prepare")]) (mCons true (mOp pItem true (mName 0) (mC (.int (0)))) mNil))) (mOp pEq2 true (mPrim pLen (mCons true (mName 0) mNil)) (mC (.int (2)))) (mCallR F_is_request (mCons true (mName 0) mNil)))))))))
theorem ln_is_operation : ∀ ρ, ρ.length ≠ 1 → F_is_operation ρ = .fail := mDef_len (bs := [true])
def F_operation_in : List Ent → R Ent := mDef [true] 2 (mThen (mSet 1 (mM1 pSplit (mName 0) (mC (.str " "))))
  (mThen (mSet 2 (mPrim pTuple (mCons true (mSlice (mName 1) (mPure none) (mPart (mC (.int (1))))) mNil)))
  (mThen (mIf (mBr (mTest T.bool (mPrim (pInC true [(V.str "begin"), (V.str "crash"), (V.str "clean")]) (mCons true (mOp pItem true (mName 1) (mC (.int (0)))) mNil))) (mTest T.bool (mOp pGt true (mPrim pLen (mCons true (mName 1) mNil)) (mC (.int (1))))) (mPure false)) (mSet 2 (mSeq true (mCons true (mOp pItem true (mName 1) (mC (.int (0)))) (mCons true (mCallR F_number_in (mCons true (mOp pItem true (mName 1) (mC (.int (1)))) mNil)) (mStar (mSlice (mName 1) (mPart (mC (.int (2)))) (mPure none)) mNil))))) .nx)
  (mThen (mIf (mBr (mTest T.bool (mOp pEq2 true (mOp pItem true (mName 1) (mC (.int (0)))) (mC (.str "change")))) (mTest T.bool (mOp pEq2 true (mPrim pLen (mCons true (mName 1) mNil)) (mC (.int (5))))) (mPure false)) (mSet 2 (mSeq true (mStar (mSlice (mName 2) (mPure none) (mPart (mC (.int (4))))) (mCons true (mCallR F_value_in (mCons true (mOp pItem true (mName 1) (mC (.int (4)))) mNil)) mNil)))) .nx)
  (mRet (mBr (mBr (mTest T.bool (mOp pEq2 true (mPrim pLen (mCons true (mName 2) mNil)) (mPrim pLen (mCons true (mName 1) mNil)))) (mTest T.tru (mCallR F_is_operation (mCons true (mName 2) mNil))) (mPure false)) (mName 2) (mC .non)))))))
theorem ln_operation_in : ∀ ρ, ρ.length ≠ 1 → F_operation_in ρ = .fail := mDef_len (bs := [true])
def F_read_history : List Ent → R Ent := mDef [true] 4 (mThen (mIf (mBr (mTest T.tru (mPrim (pIsi "str") (mCons true (mName 0) mNil))) (mPure false) (mPure true)) (mRaise "BadText" (mC (.int (1)))) .nx)
  (mThen (mSet 1 (mLst mNil))
  (mThen (mFor (mEnV (mBr (mTest T.bool (mOp pNe true (mName 0) (mC (.str "")))) (mM1 pSplit (mName 0) (mC (.str "
"))) (mLst mNil))) (gmTup 2 (gmCons (gmName 2) (gmCons (gmName 3) gmNil))) (mThen (mSet 4 (mCallR F_operation_in (mCons true (mName 3) mNil)))
  (mThen (mIf (mBr (mTest T.bool (mOp pIs true (mName 4) (mC .non))) (mPure true) (mTest T.bool (mOp pEq2 true (mName 2) (mC (.int (60)))))) (mRaise "BadText" (mOp pAdd true (mName 2) (mC (.int (1))))) .nx)
  (mDrop (mMethN 1 fAppend (mCons true (mName 4) mNil))))))
  (mRet (mPrim pTuple (mCons true (mName 1) mNil))))))
theorem ln_read_history : ∀ ρ, ρ.length ≠ 1 → F_read_history ρ = .fail := mDef_len (bs := [true])
section
variable {P : Program} {w : World} {K : PySem.W.Frag} {mg : Str → Option Value} {base : Heap} {c : VC}
theorem ok_number_in {f0 : Addr} {fd0 : FuncData} (F : At K mg "number_in" "number_in" s_number_in ["word"] f0 fd0) (B : Bt mg) (C_MOST_DIGITS : ∃ t, mg "MOST_DIGITS" = some (.int (30) t)) (C_DIGITS : ∃ t, mg "DIGITS" = some (.str "0123456789" t)) : Def P w K mg base "number_in" ["word"] 1 (spV0 c 1 F_number_in) := by
  refine okD F sc_number_in (fun vs H Q E h => spV_len h) (fun cdv A outer s H vs Q E hr tk po h => ?_)
  have hu := hu_of hr
  have hu64 := hr.units
  have hc := (show (true : Bool) = true from rfl)
  have nd := sc_number_in.nd
  refine ⟨_, (pss_cons (ps_if (PW.pt (pw_or (pt_not (pt_chain opLe opLe pe_int (pe_callB callLen (by rfl) B.len bt_len (pa_cons (pn 0) pa_nil)) (pe_g C_MOST_DIGITS))) (pw_or1 (pt_not (pt_tru (pe_callB (cr_all hc) (by rfl) B.all boot_all (pa_cons (pe_lc (own := [("sign", 1)]) hc nd (pi_any (pn 0)) (blkOk_by (own := [("sign", 1)]) (N := ["word", "sign"]) (sc := defScope s_number_in) (by decide +kernel)) (fun _ _ _ _ _ => (pg_name (i := 1) nd rfl (Or.inl rfl))) (fun _ _ _ _ _ => pts_nil) (fun _ _ _ _ _ => (pe_cmpR opInT (pn 1) (pe_gs C_DIGITS) rfl))) pa_nil))))))) (pss_one (ps_ret pe_non)) pss_nil)
      (pss_one (ps_ret (pe_ifExp (PW.pt (pw_and (pt_cmpR opGt (pe_callB callLen (by rfl) B.len bt_len (pa_cons (pn 0) pa_nil)) pe_int (nomark _)) (pw_and1 (pt_cmpR (opEqT hu64) (pe_ix (ixItem hu) (pn 0) pe_int (fun _ _ => rfl)) pe_str (nomark _))))) pe_non (pe_callTy callInt2 (by rfl) B.int boot_int (pa_cons (pn 0) pa_nil)))))), ?_⟩
  exact body_ok (pin := [0]) (bs := [true]) (k := 1) (mb := (mThen (mIf (mBr (mBr (mTest T.bool (mChain pLe pLe true (mC (.int (1))) (mPrim pLen (mCons true (mName 0) mNil)) (mC (.int (30))))) (mPure false) (mPure true)) (mPure true) (mBr (mTest T.tru (mPrim pAll (mCons true (mLc [1] (mItV (mName 0)) (gmName 1) (mPure true) (mOp pInT true (mName 1) (mC (.str "0123456789")))) mNil))) (mPure false) (mPure true))) (mRet (mC .non)) .nx)
  (mRet (mBr (mBr (mTest T.bool (mOp pGt true (mPrim pLen (mCons true (mName 0) mNil)) (mC (.int (1))))) (mTest T.bool (mOp pEq2 true (mOp pItem true (mName 0) (mC (.int (0)))) (mC (.str "0")))) (mPure false)) (mC .non) (mPrim pInt2 (mCons true (mName 0) mNil)))))) (show SS ⟨c.base, [0], L2.start ["word", "sign"] vs⟩ (fun cls d _ H => E cls d H) _ _ from (SS.seq (SS.ifs (ST.or (ST.not (SV.test (SV.chain pr_le pr_le (sv_c fun _ _ _ => .int _) (SV.cb pr_len (SA.cons sv_name SA.nil)) (sv_c fun _ _ _ => .int _)))) (ST.not (SV.truth (SV.cb pr_all (SA.cons (SV.lc (vs := [1]) (SI.any sv_name) (fun _ _ => (SG.name 1 (but_not (by decide)))) st_yes (SV.op pr_inT sv_name (sv_c fun _ _ _ => .str _))) SA.nil))))) (SS.ret (sv_c fun _ _ _ => .non)) SS.next)
      (SS.ret (ST.ife (ST.and (SV.test (SV.op pr_gt (SV.cb pr_len (SA.cons sv_name SA.nil)) (sv_c fun _ _ _ => .int _))) (SV.test (SV.op pr_eq2 (SV.op pr_item sv_name (sv_c fun _ _ _ => .int _)) (sv_c fun _ _ _ => .str _)))) (sv_c fun _ _ _ => .non) (SV.cb pr_int2 (SA.cons sv_name SA.nil)))))) (by decide) rfl h
theorem ok_value_in {f0 : Addr} {fd0 : FuncData} (F : At K mg "value_in" "value_in" s_value_in ["word"] f0 fd0) (B : Bt mg) (D_number_in : Def P w K mg base "number_in" ["word"] 1 (spV0 c 1 F_number_in)) : Def P w K mg base "value_in" ["word"] 2 (spV0 c 1 F_value_in) := by
  refine okD F sc_value_in (fun vs H Q E h => spV_len h) (fun cdv A outer s H vs Q E hr tk po h => ?_)
  have hu := hu_of hr
  have hu64 := hr.units
  have hc := (show (true : Bool) = true from rfl)
  have nd := sc_value_in.nd
  refine ⟨_, (pss_cons (ps_if (pt_not (pt_tru (pe_m1 PySem.F.slot_str_startswith PySem.F.type_str_startswith mt_startswith (pn 0) pe_str))) (pss_one (ps_ret (pe_fn D_number_in (hr.mono (by decide)) tk (pa_cons (pn 0) pa_nil)))) pss_nil)
      (pss_cons (ps_set (i := 1) nd rfl (Or.inl rfl) (pe_fn D_number_in (hr.mono (by decide)) tk (pa_cons (pe_slice slSlice (pn 0) (po_some pe_int) po_none) pa_nil)))
      (pss_one (ps_ret (pe_ifExp (PW.pt (pw_or (pt_cmpR opIs (pn 1) pe_non (nomark _)) (pw_or1 (pt_cmpR (opEqT hu64) (pn 1) pe_int (nomark _))))) pe_non (pe_un unNeg (pn 1))))))), ?_⟩
  exact body_ok (pin := [0]) (bs := [true]) (k := 1) (mb := (mThen (mIf (mBr (mTest T.tru (mM1 pStarts (mName 0) (mC (.str "-")))) (mPure false) (mPure true)) (mRet (mCallR F_number_in (mCons true (mName 0) mNil))) .nx)
  (mThen (mSet 1 (mCallR F_number_in (mCons true (mSlice (mName 0) (mPart (mC (.int (1)))) (mPure none)) mNil)))
  (mRet (mBr (mBr (mTest T.bool (mOp pIs true (mName 1) (mC .non))) (mPure true) (mTest T.bool (mOp pEq2 true (mName 1) (mC (.int (0)))))) (mC .non) (mPrim pNeg (mCons true (mName 1) mNil))))))) (show SS ⟨c.base, [0], L2.start ["word", "found"] vs⟩ (fun cls d _ H => E cls d H) _ _ from (SS.seq (SS.ifs (ST.not (SV.truth (SV.met1 pr_starts sv_name (sv_c fun _ _ _ => .str _)))) (SS.ret (SV.callR ln_number_in (SA.cons sv_name SA.nil))) SS.next)
      (SS.seq (SS.set 1 (show 1 ∉ ([0] : List Nat) by decide) (SV.callR ln_number_in (SA.cons (SV.slice sv_name (SO.some (sv_c fun _ _ _ => .int _)) SO.none) SA.nil)))
      (SS.ret (ST.ife (ST.or (SV.test (SV.op pr_is sv_name (sv_c fun _ _ _ => .non))) (SV.test (SV.op pr_eq2 sv_name (sv_c fun _ _ _ => .int _)))) (sv_c fun _ _ _ => .non) (SV.un pr_neg sv_name)))))) (by decide) rfl h
theorem ok_is_integer {f0 : Addr} {fd0 : FuncData} (F : At K mg "is_integer" "is_integer" s_is_integer ["value"] f0 fd0) (B : Bt mg)  : Def P w K mg base "is_integer" ["value"] 1 (spV0 c 1 F_is_integer) := by
  refine okD F sc_is_integer (fun vs H Q E h => spV_len h) (fun cdv A outer s H vs Q E hr tk po h => ?_)
  have hu := hu_of hr
  have hu64 := hr.units
  have hc := (show (true : Bool) = true from rfl)
  have nd := sc_is_integer.nd
  refine ⟨_, (pss_one (ps_ret (pe_and (pe_callB callIsi (by rfl) B.isinstance boot_isinstance (pa_cons (pn 0) (pa_cons (pe_bltn (v := .ty "int") (by rfl) B.int boot_int rfl) pa_nil))) (pe_one (pe_not (pe_callB callIsi (by rfl) B.isinstance boot_isinstance (pa_cons (pn 0) (pa_cons (pe_bltn (v := .ty "bool") (by rfl) B.bool boot_bool rfl) pa_nil)))))))), ?_⟩
  exact body_ok (pin := [0]) (bs := [true]) (k := 0) (mb := (mRet (mBr (mBool (mPrim (pIsi "int") (mCons true (mName 0) mNil))) (mBr (mBool (mPrim (pIsi "bool") (mCons true (mName 0) mNil))) (mC (.bl false)) (mC (.bl true))) (mC (.bl false))))) (show SS ⟨c.base, [0], L2.start ["value"] vs⟩ (fun cls d _ H => E cls d H) _ _ from (SS.ret (SV.and (SV.isi "int" sv_name) (SV.not (SV.isi "bool" sv_name))))) (by decide) rfl h
theorem ok_is_from_to {f0 : Addr} {fd0 : FuncData} (F : At K mg "is_from_to" "is_from_to" s_is_from_to ["value", "least", "most"] f0 fd0) (B : Bt mg) (D_is_integer : Def P w K mg base "is_integer" ["value"] 1 (spV0 c 1 F_is_integer)) : Def P w K mg base "is_from_to" ["value", "least", "most"] 2 (spV0 c 3 F_is_from_to) := by
  refine okD F sc_is_from_to (fun vs H Q E h => spV_len h) (fun cdv A outer s H vs Q E hr tk po h => ?_)
  have hu := hu_of hr
  have hu64 := hr.units
  have hc := (show (true : Bool) = true from rfl)
  have nd := sc_is_from_to.nd
  refine ⟨_, (pss_one (ps_ret (pe_and (pe_fn D_is_integer (hr.mono (by decide)) tk (pa_cons (pn 0) pa_nil)) (pe_one (pe_chain opLe opLe (pn 1) (pn 0) (pn 2)))))), ?_⟩
  exact body_ok (pin := [0, 1, 2]) (bs := [true, true, true]) (k := 0) (mb := (mRet (mBr (mBool (mCallR F_is_integer (mCons true (mName 0) mNil))) (mChain pLe pLe true (mName 1) (mName 0) (mName 2)) (mC (.bl false))))) (show SS ⟨c.base, [0, 1, 2], L2.start ["value", "least", "most"] vs⟩ (fun cls d _ H => E cls d H) _ _ from (SS.ret (SV.and (SV.callR ln_is_integer (SA.cons sv_name SA.nil)) (SV.chain pr_le pr_le sv_name sv_name sv_name)))) (by decide) rfl h
theorem ok_is_name {f0 : Addr} {fd0 : FuncData} (F : At K mg "is_name" "is_name" s_is_name ["value"] f0 fd0) (B : Bt mg) (C_MOST_LETTERS : ∃ t, mg "MOST_LETTERS" = some (.int (6) t)) (C_LETTERS : ∃ t, mg "LETTERS" = some (.str "abcdefghijklmnopqrstuvwxyz" t)) : Def P w K mg base "is_name" ["value"] 1 (spV0 c 1 F_is_name) := by
  refine okD F sc_is_name (fun vs H Q E h => spV_len h) (fun cdv A outer s H vs Q E hr tk po h => ?_)
  have hu := hu_of hr
  have hu64 := hr.units
  have hc := (show (true : Bool) = true from rfl)
  have nd := sc_is_name.nd
  refine ⟨_, (pss_one (ps_ret (pe_and (pe_callB callIsi (by rfl) B.isinstance boot_isinstance (pa_cons (pn 0) (pa_cons (pe_bltn (v := .ty "str") (by rfl) B.str boot_str rfl) pa_nil))) (pe_and (pe_chain opLe opLe pe_int (pe_callB callLen (by rfl) B.len bt_len (pa_cons (pn 0) pa_nil)) (pe_g C_MOST_LETTERS)) (pe_one (pe_callB (cr_all hc) (by rfl) B.all boot_all (pa_cons (pe_lc (own := [("sign", 1)]) hc nd (pi_any (pn 0)) (blkOk_by (own := [("sign", 1)]) (N := ["value", "sign"]) (sc := defScope s_is_name) (by decide +kernel)) (fun _ _ _ _ _ => (pg_name (i := 1) nd rfl (Or.inl rfl))) (fun _ _ _ _ _ => pts_nil) (fun _ _ _ _ _ => (pe_cmpR opInT (pn 1) (pe_gs C_LETTERS) rfl))) pa_nil))))))), ?_⟩
  exact body_ok (pin := [0]) (bs := [true]) (k := 1) (mb := (mRet (mBr (mBool (mPrim (pIsi "str") (mCons true (mName 0) mNil))) (mBr (mBool (mChain pLe pLe true (mC (.int (1))) (mPrim pLen (mCons true (mName 0) mNil)) (mC (.int (6))))) (mPrim pAll (mCons true (mLc [1] (mItV (mName 0)) (gmName 1) (mPure true) (mOp pInT true (mName 1) (mC (.str "abcdefghijklmnopqrstuvwxyz")))) mNil)) (mC (.bl false))) (mC (.bl false))))) (show SS ⟨c.base, [0], L2.start ["value", "sign"] vs⟩ (fun cls d _ H => E cls d H) _ _ from (SS.ret (SV.and (SV.isi "str" sv_name) (SV.and (SV.chain pr_le pr_le (sv_c fun _ _ _ => .int _) (SV.cb pr_len (SA.cons sv_name SA.nil)) (sv_c fun _ _ _ => .int _)) (SV.cb pr_all (SA.cons (SV.lc (vs := [1]) (SI.any sv_name) (fun _ _ => (SG.name 1 (but_not (by decide)))) st_yes (SV.op pr_inT sv_name (sv_c fun _ _ _ => .str _))) SA.nil)))))) (by decide) rfl h
theorem ok_is_mode {f0 : Addr} {fd0 : FuncData} (F : At K mg "is_mode" "is_mode" s_is_mode ["value"] f0 fd0) (B : Bt mg) (C_WORDS : Cst K mg "WORDS" [(V.str "hold"), (V.str "keep"), (V.str "change"), (V.str "replace")]) : Def P w K mg base "is_mode" ["value"] 1 (spV0 c 1 F_is_mode) := by
  refine okD F sc_is_mode (fun vs H Q E h => spV_len h) (fun cdv A outer s H vs Q E hr tk po h => ?_)
  have hu := hu_of hr
  have hu64 := hr.units
  have hc := (show (true : Bool) = true from rfl)
  have nd := sc_is_mode.nd
  refine ⟨_, (pss_one (ps_ret (pe_and (pe_callB callIsi (by rfl) B.isinstance boot_isinstance (pa_cons (pn 0) (pa_cons (pe_bltn (v := .ty "str") (by rfl) B.str boot_str rfl) pa_nil))) (pe_one (pe_inC (pn 0) (pc_cst C_WORDS) gC_m))))), ?_⟩
  exact body_ok (pin := [0]) (bs := [true]) (k := 0) (mb := (mRet (mBr (mBool (mPrim (pIsi "str") (mCons true (mName 0) mNil))) (mPrim (pInC false [(V.str "hold"), (V.str "keep"), (V.str "change"), (V.str "replace")]) (mCons true (mName 0) mNil)) (mC (.bl false))))) (show SS ⟨c.base, [0], L2.start ["value"] vs⟩ (fun cls d _ H => E cls d H) _ _ from (SS.ret (SV.and (SV.isi "str" sv_name) (SV.inC false gC_x sv_name)))) (by decide) rfl h
theorem ok_is_change_mode {f0 : Addr} {fd0 : FuncData} (F : At K mg "is_change_mode" "is_change_mode" s_is_change_mode ["value"] f0 fd0) (B : Bt mg) (C_WORDS : Cst K mg "WORDS" [(V.str "hold"), (V.str "keep"), (V.str "change"), (V.str "replace")]) : Def P w K mg base "is_change_mode" ["value"] 1 (spV0 c 1 F_is_change_mode) := by
  refine okD F sc_is_change_mode (fun vs H Q E h => spV_len h) (fun cdv A outer s H vs Q E hr tk po h => ?_)
  have hu := hu_of hr
  have hu64 := hr.units
  have hc := (show (true : Bool) = true from rfl)
  have nd := sc_is_change_mode.nd
  refine ⟨_, (pss_one (ps_ret (pe_and (pe_callB callIsi (by rfl) B.isinstance boot_isinstance (pa_cons (pn 0) (pa_cons (pe_bltn (v := .ty "str") (by rfl) B.str boot_str rfl) pa_nil))) (pe_one (pe_inC (pn 0) (pc_cut (lo := (some 2)) (hi := none) C_WORDS (po_some pe_int) po_none (fun _ _ _ q => ⟨_, rfl, q⟩) (fun _ _ _ q => q)) gN_m))))), ?_⟩
  exact body_ok (pin := [0]) (bs := [true]) (k := 0) (mb := (mRet (mBr (mBool (mPrim (pIsi "str") (mCons true (mName 0) mNil))) (mPrim (pInC false (cutV [(V.str "hold"), (V.str "keep"), (V.str "change"), (V.str "replace")] (some 2) none)) (mCons true (mName 0) mNil)) (mC (.bl false))))) (show SS ⟨c.base, [0], L2.start ["value"] vs⟩ (fun cls d _ H => E cls d H) _ _ from (SS.ret (SV.and (SV.isi "str" sv_name) (SV.inC false gN_x sv_name)))) (by decide) rfl h
theorem ok_is_value {f0 : Addr} {fd0 : FuncData} (F : At K mg "is_value" "is_value" s_is_value ["value"] f0 fd0) (B : Bt mg) (C_TOO_GREAT : ∃ t, mg "TOO_GREAT" = some (.int (1000000000000000000000000000000) t)) (D_is_integer : Def P w K mg base "is_integer" ["value"] 1 (spV0 c 1 F_is_integer)) : Def P w K mg base "is_value" ["value"] 2 (spV0 c 1 F_is_value) := by
  refine okD F sc_is_value (fun vs H Q E h => spV_len h) (fun cdv A outer s H vs Q E hr tk po h => ?_)
  have hu := hu_of hr
  have hu64 := hr.units
  have hc := (show (true : Bool) = true from rfl)
  have nd := sc_is_value.nd
  refine ⟨_, (pss_one (ps_ret (pe_and (pe_fn D_is_integer (hr.mono (by decide)) tk (pa_cons (pn 0) pa_nil)) (pe_one (pe_cmpR opLt (pe_callB callAbs (by rfl) B.abs boot_abs (pa_cons (pn 0) pa_nil)) (pe_g C_TOO_GREAT) (nomark _)))))), ?_⟩
  exact body_ok (pin := [0]) (bs := [true]) (k := 0) (mb := (mRet (mBr (mBool (mCallR F_is_integer (mCons true (mName 0) mNil))) (mOp pLt true (mPrim pAbs (mCons true (mName 0) mNil)) (mC (.int (1000000000000000000000000000000)))) (mC (.bl false))))) (show SS ⟨c.base, [0], L2.start ["value"] vs⟩ (fun cls d _ H => E cls d H) _ _ from (SS.ret (SV.and (SV.callR ln_is_integer (SA.cons sv_name SA.nil)) (SV.op pr_lt (SV.cb pr_abs (SA.cons sv_name SA.nil)) (sv_c fun _ _ _ => .int _))))) (by decide) rfl h
theorem ok_is_request {f0 : Addr} {fd0 : FuncData} (F : At K mg "is_request" "is_request" s_is_request ["value"] f0 fd0) (B : Bt mg) (D_is_name : Def P w K mg base "is_name" ["value"] 1 (spV0 c 1 F_is_name)) (D_is_mode : Def P w K mg base "is_mode" ["value"] 1 (spV0 c 1 F_is_mode)) (D_is_change_mode : Def P w K mg base "is_change_mode" ["value"] 1 (spV0 c 1 F_is_change_mode)) (D_is_value : Def P w K mg base "is_value" ["value"] 2 (spV0 c 1 F_is_value)) : Def P w K mg base "is_request" ["value"] 3 (spV0 c 1 F_is_request) := by
  refine okD F sc_is_request (fun vs H Q E h => spV_len h) (fun cdv A outer s H vs Q E hr tk po h => ?_)
  have hu := hu_of hr
  have hu64 := hr.units
  have hc := (show (true : Bool) = true from rfl)
  have nd := sc_is_request.nd
  refine ⟨_, (pss_cons (ps_if (PW.pt (pw_and (pt_cmpR (opEqT hu64) (pe_ix (ixItem hu) (pn 0) pe_int (fun _ _ => rfl)) pe_str (nomark _)) (pw_and1 (pt_cmpR (opEqT hu64) (pe_callB callLen (by rfl) B.len bt_len (pa_cons (pn 0) pa_nil)) pe_int (nomark _))))) (pss_one (ps_ret (pe_and (pe_fn D_is_name (hr.mono (by decide)) tk (pa_cons (pe_ix (ixItem hu) (pn 0) pe_int (fun _ _ => rfl)) pa_nil)) (pe_one (pe_fn D_is_mode (hr.mono (by decide)) tk (pa_cons (pe_ix (ixItem hu) (pn 0) pe_int (fun _ _ => rfl)) pa_nil)))))) pss_nil)
      (pss_cons (ps_if (PW.pt (pw_and (pt_cmpR (opEqT hu64) (pe_ix (ixItem hu) (pn 0) pe_int (fun _ _ => rfl)) pe_str (nomark _)) (pw_and1 (pt_cmpR (opEqT hu64) (pe_callB callLen (by rfl) B.len bt_len (pa_cons (pn 0) pa_nil)) pe_int (nomark _))))) (pss_one (ps_ret (pe_and (pe_fn D_is_name (hr.mono (by decide)) tk (pa_cons (pe_ix (ixItem hu) (pn 0) pe_int (fun _ _ => rfl)) pa_nil)) (pe_and (pe_fn D_is_change_mode (hr.mono (by decide)) tk (pa_cons (pe_ix (ixItem hu) (pn 0) pe_int (fun _ _ => rfl)) pa_nil)) (pe_one (pe_fn D_is_value (hr.mono (by decide)) tk (pa_cons (pe_ix (ixItem hu) (pn 0) pe_int (fun _ _ => rfl)) pa_nil))))))) pss_nil)
      (pss_one (ps_ret pe_bl)))), ?_⟩
  exact body_ok (pin := [0]) (bs := [true]) (k := 0) (mb := (mThen (mIf (mBr (mTest T.bool (mOp pEq2 true (mOp pItem true (mName 0) (mC (.int (0)))) (mC (.str "lock")))) (mTest T.bool (mOp pEq2 true (mPrim pLen (mCons true (mName 0) mNil)) (mC (.int (4))))) (mPure false)) (mRet (mBr (mBool (mCallR F_is_name (mCons true (mOp pItem true (mName 0) (mC (.int (2)))) mNil))) (mCallR F_is_mode (mCons true (mOp pItem true (mName 0) (mC (.int (3)))) mNil)) (mC (.bl false)))) .nx)
  (mThen (mIf (mBr (mTest T.bool (mOp pEq2 true (mOp pItem true (mName 0) (mC (.int (0)))) (mC (.str "change")))) (mTest T.bool (mOp pEq2 true (mPrim pLen (mCons true (mName 0) mNil)) (mC (.int (5))))) (mPure false)) (mRet (mBr (mBool (mCallR F_is_name (mCons true (mOp pItem true (mName 0) (mC (.int (2)))) mNil))) (mBr (mBool (mCallR F_is_change_mode (mCons true (mOp pItem true (mName 0) (mC (.int (3)))) mNil))) (mCallR F_is_value (mCons true (mOp pItem true (mName 0) (mC (.int (4)))) mNil)) (mC (.bl false))) (mC (.bl false)))) .nx)
  (mRet (mC (.bl false)))))) (show SS ⟨c.base, [0], L2.start ["value"] vs⟩ (fun cls d _ H => E cls d H) _ _ from (SS.seq (SS.ifs (ST.and (SV.test (SV.op pr_eq2 (SV.op pr_item sv_name (sv_c fun _ _ _ => .int _)) (sv_c fun _ _ _ => .str _))) (SV.test (SV.op pr_eq2 (SV.cb pr_len (SA.cons sv_name SA.nil)) (sv_c fun _ _ _ => .int _)))) (SS.ret (SV.and (SV.callR ln_is_name (SA.cons (SV.op pr_item sv_name (sv_c fun _ _ _ => .int _)) SA.nil)) (SV.callR ln_is_mode (SA.cons (SV.op pr_item sv_name (sv_c fun _ _ _ => .int _)) SA.nil)))) SS.next)
      (SS.seq (SS.ifs (ST.and (SV.test (SV.op pr_eq2 (SV.op pr_item sv_name (sv_c fun _ _ _ => .int _)) (sv_c fun _ _ _ => .str _))) (SV.test (SV.op pr_eq2 (SV.cb pr_len (SA.cons sv_name SA.nil)) (sv_c fun _ _ _ => .int _)))) (SS.ret (SV.and (SV.callR ln_is_name (SA.cons (SV.op pr_item sv_name (sv_c fun _ _ _ => .int _)) SA.nil)) (SV.and (SV.callR ln_is_change_mode (SA.cons (SV.op pr_item sv_name (sv_c fun _ _ _ => .int _)) SA.nil)) (SV.callR ln_is_value (SA.cons (SV.op pr_item sv_name (sv_c fun _ _ _ => .int _)) SA.nil))))) SS.next)
      (SS.ret (sv_c fun _ _ _ => .bl _))))) (by decide) rfl h
theorem ok_is_operation {f0 : Addr} {fd0 : FuncData} (F : At K mg "is_operation" "is_operation" s_is_operation ["value"] f0 fd0) (B : Bt mg) (C_ALONE : Cst K mg "ALONE" [(V.str "begin"), (V.str "crash"), (V.str "clean")]) (C_MOST_NUMBER : ∃ t, mg "MOST_NUMBER" = some (.int (1000000) t)) (C_NUMBERED : Cst K mg "NUMBERED" [(V.str "save"), (V.str "release"), (V.str "back"), (V.str "commit"), (V.str "abort"), (V.str "prepare")]) (C_MOST_OPERATIONS : ∃ t, mg "MOST_OPERATIONS" = some (.int (60) t)) (D_is_from_to : Def P w K mg base "is_from_to" ["value", "least", "most"] 2 (spV0 c 3 F_is_from_to)) (D_is_request : Def P w K mg base "is_request" ["value"] 3 (spV0 c 1 F_is_request)) : Def P w K mg base "is_operation" ["value"] 4 (spV0 c 1 F_is_operation) := by
  refine okD F sc_is_operation (fun vs H Q E h => spV_len h) (fun cdv A outer s H vs Q E hr tk po h => ?_)
  have hu := hu_of hr
  have hu64 := hr.units
  have hc := (show (true : Bool) = true from rfl)
  have nd := sc_is_operation.nd
  refine ⟨_, (pss_cons (ps_if (PW.pt (pw_or (pt_not (pt_tru (pe_callB callIsi (by rfl) B.isinstance boot_isinstance (pa_cons (pn 0) (pa_cons (pe_bltn (v := .ty "tuple") (by rfl) B.tuple boot_tuple rfl) pa_nil))))) (pw_or (pt_cmpR (opEqT hu64) (pn 0) (pe_tup pa_nil) (nomark _)) (pw_or1 (pt_not (pt_tru (pe_callB callIsi (by rfl) B.isinstance boot_isinstance (pa_cons (pe_ix (ixItem hu) (pn 0) pe_int (fun _ _ => rfl)) (pa_cons (pe_bltn (v := .ty "str") (by rfl) B.str boot_str rfl) pa_nil))))))))) (pss_one (ps_ret pe_bl)) pss_nil)
      (pss_cons (ps_if (pt_inC (pe_ix (ixItem hu) (pn 0) pe_int (fun _ _ => rfl)) (pc_cst C_ALONE) gC_m) (pss_one (ps_ret (pe_cmpR (opEqT hu64) (pe_callB callLen (by rfl) B.len bt_len (pa_cons (pn 0) pa_nil)) pe_int (nomark _)))) pss_nil)
      (pss_cons (ps_if (pt_cmpR opLt (pe_callB callLen (by rfl) B.len bt_len (pa_cons (pn 0) pa_nil)) pe_int (nomark _)) (pss_one (ps_ret pe_bl)) pss_nil)
      (pss_cons (ps_if (pt_cmpR (opEqT hu64) (pe_ix (ixItem hu) (pn 0) pe_int (fun _ _ => rfl)) pe_str (nomark _)) (pss_one (ps_ret (pe_and (pe_cmpR (opEqT hu64) (pe_callB callLen (by rfl) B.len bt_len (pa_cons (pn 0) pa_nil)) pe_int (nomark _)) (pe_one (pe_fn D_is_from_to (hr.mono (by decide)) tk (pa_cons (pe_ix (ixItem hu) (pn 0) pe_int (fun _ _ => rfl)) (pa_cons pe_int (pa_cons (pe_g C_MOST_OPERATIONS) pa_nil)))))))) pss_nil)
      (pss_cons (ps_if (pt_not (pt_tru (pe_fn D_is_from_to (hr.mono (by decide)) tk (pa_cons (pe_ix (ixItem hu) (pn 0) pe_int (fun _ _ => rfl)) (pa_cons pe_int (pa_cons (pe_g C_MOST_NUMBER) pa_nil)))))) (pss_one (ps_ret pe_bl)) pss_nil)
      (pss_one (ps_ret (pe_ifExp (pt_inC (pe_ix (ixItem hu) (pn 0) pe_int (fun _ _ => rfl)) (pc_cst C_NUMBERED) gC_m) (pe_cmpR (opEqT hu64) (pe_callB callLen (by rfl) B.len bt_len (pa_cons (pn 0) pa_nil)) pe_int (nomark _)) (pe_fn D_is_request (hr.mono (by decide)) tk (pa_cons (pn 0) pa_nil)))))))))), ?_⟩
  exact body_ok (pin := [0]) (bs := [true]) (k := 0) (mb := (mThen (mIf (mBr (mBr (mTest T.tru (mPrim (pIsi "tuple") (mCons true (mName 0) mNil))) (mPure false) (mPure true)) (mPure true) (mBr (mTest T.bool (mOp pEq2 true (mName 0) (mSeq true mNil))) (mPure true) (mBr (mTest T.tru (mPrim (pIsi "str") (mCons true (mOp pItem true (mName 0) (mC (.int (0)))) mNil))) (mPure false) (mPure true)))) (mRet (mC (.bl false))) .nx)
  (mThen (mIf (mTest T.bool (mPrim (pInC false [(V.str "begin"), (V.str "crash"), (V.str "clean")]) (mCons true (mOp pItem true (mName 0) (mC (.int (0)))) mNil))) (mRet (mOp pEq2 true (mPrim pLen (mCons true (mName 0) mNil)) (mC (.int (1))))) .nx)
  (mThen (mIf (mTest T.bool (mOp pLt true (mPrim pLen (mCons true (mName 0) mNil)) (mC (.int (2))))) (mRet (mC (.bl false))) .nx)
  (mThen (mIf (mTest T.bool (mOp pEq2 true (mOp pItem true (mName 0) (mC (.int (0)))) (mC (.str "horizon")))) (mRet (mBr (mBool (mOp pEq2 true (mPrim pLen (mCons true (mName 0) mNil)) (mC (.int (2))))) (mCallR F_is_from_to (mCons true (mOp pItem true (mName 0) (mC (.int (1)))) (mCons true (mC (.int (0))) (mCons true (mC (.int (60))) mNil)))) (mC (.bl false)))) .nx)
  (mThen (mIf (mBr (mTest T.tru (mCallR F_is_from_to (mCons true (mOp pItem true (mName 0) (mC (.int (1)))) (mCons true (mC (.int (1))) (mCons true (mC (.int (1000000))) mNil))))) (mPure false) (mPure true)) (mRet (mC (.bl false))) .nx)
  (mRet (mBr (mTest T.bool (mPrim (pInC false [(V.str "save"), (V.str "release"), (V.str "back"), (V.str "commit"), (V.str "abort"), (V.str "prepare")]) (mCons true (mOp pItem true (mName 0) (mC (.int (0)))) mNil))) (mOp pEq2 true (mPrim pLen (mCons true (mName 0) mNil)) (mC (.int (2)))) (mCallR F_is_request (mCons true (mName 0) mNil)))))))))) (show SS ⟨c.base, [0], L2.start ["value"] vs⟩ (fun cls d _ H => E cls d H) _ _ from (SS.seq (SS.ifs (ST.or (ST.not (SV.truth (SV.isi "tuple" sv_name))) (ST.or (SV.test (SV.op pr_eq2 sv_name (SV.tup SA.nil))) (ST.not (SV.truth (SV.isi "str" (SV.op pr_item sv_name (sv_c fun _ _ _ => .int _))))))) (SS.ret (sv_c fun _ _ _ => .bl _)) SS.next)
      (SS.seq (SS.ifs (SV.test (SV.inC false gC_x (SV.op pr_item sv_name (sv_c fun _ _ _ => .int _)))) (SS.ret (SV.op pr_eq2 (SV.cb pr_len (SA.cons sv_name SA.nil)) (sv_c fun _ _ _ => .int _))) SS.next)
      (SS.seq (SS.ifs (SV.test (SV.op pr_lt (SV.cb pr_len (SA.cons sv_name SA.nil)) (sv_c fun _ _ _ => .int _))) (SS.ret (sv_c fun _ _ _ => .bl _)) SS.next)
      (SS.seq (SS.ifs (SV.test (SV.op pr_eq2 (SV.op pr_item sv_name (sv_c fun _ _ _ => .int _)) (sv_c fun _ _ _ => .str _))) (SS.ret (SV.and (SV.op pr_eq2 (SV.cb pr_len (SA.cons sv_name SA.nil)) (sv_c fun _ _ _ => .int _)) (SV.callR ln_is_from_to (SA.cons (SV.op pr_item sv_name (sv_c fun _ _ _ => .int _)) (SA.cons (sv_c fun _ _ _ => .int _) (SA.cons (sv_c fun _ _ _ => .int _) SA.nil)))))) SS.next)
      (SS.seq (SS.ifs (ST.not (SV.truth (SV.callR ln_is_from_to (SA.cons (SV.op pr_item sv_name (sv_c fun _ _ _ => .int _)) (SA.cons (sv_c fun _ _ _ => .int _) (SA.cons (sv_c fun _ _ _ => .int _) SA.nil)))))) (SS.ret (sv_c fun _ _ _ => .bl _)) SS.next)
      (SS.ret (ST.ife (SV.test (SV.inC false gC_x (SV.op pr_item sv_name (sv_c fun _ _ _ => .int _)))) (SV.op pr_eq2 (SV.cb pr_len (SA.cons sv_name SA.nil)) (sv_c fun _ _ _ => .int _)) (SV.callR ln_is_request (SA.cons sv_name SA.nil)))))))))) (by decide) rfl h
theorem ok_operation_in {f0 : Addr} {fd0 : FuncData} (F : At K mg "operation_in" "operation_in" s_operation_in ["line"] f0 fd0) (B : Bt mg) (C_ALONE : Cst K mg "ALONE" [(V.str "begin"), (V.str "crash"), (V.str "clean")]) (D_number_in : Def P w K mg base "number_in" ["word"] 1 (spV0 c 1 F_number_in)) (D_value_in : Def P w K mg base "value_in" ["word"] 2 (spV0 c 1 F_value_in)) (D_is_operation : Def P w K mg base "is_operation" ["value"] 4 (spV0 c 1 F_is_operation)) : Def P w K mg base "operation_in" ["line"] 5 (spV0 c 1 F_operation_in) := by
  refine okD F sc_operation_in (fun vs H Q E h => spV_len h) (fun cdv A outer s H vs Q E hr tk po h => ?_)
  have hu := hu_of hr
  have hu64 := hr.units
  have hc := (show (true : Bool) = true from rfl)
  have nd := sc_operation_in.nd
  refine ⟨_, (pss_cons (ps_set (i := 1) nd rfl (Or.inl rfl) (pe_split (pn 0) pe_str))
      (pss_cons (ps_set (i := 2) nd rfl (Or.inl rfl) (pe_callTy callTuple (by rfl) B.tuple boot_tuple (pa_cons (pe_slice slSlice (pn 1) po_none (po_some pe_int)) pa_nil)))
      (pss_cons (ps_if (PW.pt (pw_and (pt_ninC (pe_ix (ixItem hu) (pn 1) pe_int (fun _ _ => rfl)) (pc_cst C_ALONE) gC_m) (pw_and1 (pt_cmpR opGt (pe_callB callLen (by rfl) B.len bt_len (pa_cons (pn 1) pa_nil)) pe_int (nomark _))))) (pss_one (ps_set (i := 2) nd rfl (Or.inl rfl) (pe_tup (pa_cons (pe_ix (ixItem hu) (pn 1) pe_int (fun _ _ => rfl)) (pa_cons (pe_fn D_number_in (hr.mono (by decide)) tk (pa_cons (pe_ix (ixItem hu) (pn 1) pe_int (fun _ _ => rfl)) pa_nil)) (StX.pa_star (pe_slice slSlice (pn 1) (po_some pe_int) po_none) pa_nil)))))) pss_nil)
      (pss_cons (ps_if (PW.pt (pw_and (pt_cmpR (opEqT hu64) (pe_ix (ixItem hu) (pn 1) pe_int (fun _ _ => rfl)) pe_str (nomark _)) (pw_and1 (pt_cmpR (opEqT hu64) (pe_callB callLen (by rfl) B.len bt_len (pa_cons (pn 1) pa_nil)) pe_int (nomark _))))) (pss_one (ps_set (i := 2) nd rfl (Or.inl rfl) (pe_tup (StX.pa_star (pe_slice slSlice (pn 2) po_none (po_some pe_int)) (pa_cons (pe_fn D_value_in (hr.mono (by decide)) tk (pa_cons (pe_ix (ixItem hu) (pn 1) pe_int (fun _ _ => rfl)) pa_nil)) pa_nil))))) pss_nil)
      (pss_one (ps_ret (pe_ifExp (PW.pt (pw_and (pt_cmpR (opEqT hu64) (pe_callB callLen (by rfl) B.len bt_len (pa_cons (pn 2) pa_nil)) (pe_callB callLen (by rfl) B.len bt_len (pa_cons (pn 1) pa_nil)) (nomark _)) (pw_and1 (pt_tru (pe_fn D_is_operation (hr.mono (by decide)) tk (pa_cons (pn 2) pa_nil)))))) (pn 2) pe_non))))))), ?_⟩
  exact body_ok (pin := [0]) (bs := [true]) (k := 2) (mb := (mThen (mSet 1 (mM1 pSplit (mName 0) (mC (.str " "))))
  (mThen (mSet 2 (mPrim pTuple (mCons true (mSlice (mName 1) (mPure none) (mPart (mC (.int (1))))) mNil)))
  (mThen (mIf (mBr (mTest T.bool (mPrim (pInC true [(V.str "begin"), (V.str "crash"), (V.str "clean")]) (mCons true (mOp pItem true (mName 1) (mC (.int (0)))) mNil))) (mTest T.bool (mOp pGt true (mPrim pLen (mCons true (mName 1) mNil)) (mC (.int (1))))) (mPure false)) (mSet 2 (mSeq true (mCons true (mOp pItem true (mName 1) (mC (.int (0)))) (mCons true (mCallR F_number_in (mCons true (mOp pItem true (mName 1) (mC (.int (1)))) mNil)) (mStar (mSlice (mName 1) (mPart (mC (.int (2)))) (mPure none)) mNil))))) .nx)
  (mThen (mIf (mBr (mTest T.bool (mOp pEq2 true (mOp pItem true (mName 1) (mC (.int (0)))) (mC (.str "change")))) (mTest T.bool (mOp pEq2 true (mPrim pLen (mCons true (mName 1) mNil)) (mC (.int (5))))) (mPure false)) (mSet 2 (mSeq true (mStar (mSlice (mName 2) (mPure none) (mPart (mC (.int (4))))) (mCons true (mCallR F_value_in (mCons true (mOp pItem true (mName 1) (mC (.int (4)))) mNil)) mNil)))) .nx)
  (mRet (mBr (mBr (mTest T.bool (mOp pEq2 true (mPrim pLen (mCons true (mName 2) mNil)) (mPrim pLen (mCons true (mName 1) mNil)))) (mTest T.tru (mCallR F_is_operation (mCons true (mName 2) mNil))) (mPure false)) (mName 2) (mC .non)))))))) (show SS ⟨c.base, [0], L2.start ["line", "words", "found"] vs⟩ (fun cls d _ H => E cls d H) _ _ from (SS.seq (SS.set 1 (show 1 ∉ ([0] : List Nat) by decide) (SV.met1 pr_split sv_name (sv_c fun _ _ _ => .str _)))
      (SS.seq (SS.set 2 (show 2 ∉ ([0] : List Nat) by decide) (SV.cb pr_tuple (SA.cons (SV.slice sv_name SO.none (SO.some (sv_c fun _ _ _ => .int _))) SA.nil)))
      (SS.seq (SS.ifs (ST.and (SV.test (SV.inC true gC_x (SV.op pr_item sv_name (sv_c fun _ _ _ => .int _)))) (SV.test (SV.op pr_gt (SV.cb pr_len (SA.cons sv_name SA.nil)) (sv_c fun _ _ _ => .int _)))) (SS.set 2 (show 2 ∉ ([0] : List Nat) by decide) (SV.tup (SA.cons (SV.op pr_item sv_name (sv_c fun _ _ _ => .int _)) (SA.cons (SV.callR ln_number_in (SA.cons (SV.op pr_item sv_name (sv_c fun _ _ _ => .int _)) SA.nil)) (SA.star (SV.slice sv_name (SO.some (sv_c fun _ _ _ => .int _)) SO.none) SA.nil))))) SS.next)
      (SS.seq (SS.ifs (ST.and (SV.test (SV.op pr_eq2 (SV.op pr_item sv_name (sv_c fun _ _ _ => .int _)) (sv_c fun _ _ _ => .str _))) (SV.test (SV.op pr_eq2 (SV.cb pr_len (SA.cons sv_name SA.nil)) (sv_c fun _ _ _ => .int _)))) (SS.set 2 (show 2 ∉ ([0] : List Nat) by decide) (SV.tup (SA.star (SV.slice sv_name SO.none (SO.some (sv_c fun _ _ _ => .int _))) (SA.cons (SV.callR ln_value_in (SA.cons (SV.op pr_item sv_name (sv_c fun _ _ _ => .int _)) SA.nil)) SA.nil)))) SS.next)
      (SS.ret (ST.ife (ST.and (SV.test (SV.op pr_eq2 (SV.cb pr_len (SA.cons sv_name SA.nil)) (SV.cb pr_len (SA.cons sv_name SA.nil)))) (SV.truth (SV.callR ln_is_operation (SA.cons sv_name SA.nil)))) sv_name (sv_c fun _ _ _ => .non)))))))) (by decide) rfl h
theorem ok_read_history {f0 : Addr} {fd0 : FuncData} (F : At K mg "read_history" "read_history" s_read_history ["text"] f0 fd0) (B : Bt mg) (E_BadText : EDef P w K mg base "BadText" (c.ca.cl "BadText") (c.ef "BadText")) (C_MOST_OPERATIONS : ∃ t, mg "MOST_OPERATIONS" = some (.int (60) t)) (D_operation_in : Def P w K mg base "operation_in" ["line"] 5 (spV0 c 1 F_operation_in)) : Def P w K mg base "read_history" ["text"] 6 (spV0 c 1 F_read_history) := by
  refine okD F sc_read_history (fun vs H Q E h => spV_len h) (fun cdv A outer s H vs Q E hr tk po h => ?_)
  have hu := hu_of hr
  have hu64 := hr.units
  have hc := (show (true : Bool) = true from rfl)
  have nd := sc_read_history.nd
  refine ⟨_, (pss_cons (ps_if (pt_not (pt_tru (pe_callB callIsi (by rfl) B.isinstance boot_isinstance (pa_cons (pn 0) (pa_cons (pe_bltn (v := .ty "str") (by rfl) B.str boot_str rfl) pa_nil))))) (pss_one (ps_err E_BadText hc (hr.mono (by decide)) tk pe_int)) pss_nil)
      (pss_cons (ps_set (i := 1) nd rfl (Or.inl rfl) (pe_lst pa_nil))
      (pss_cons (ps_for po hc (pi_enum (by rfl) B.enumerate (pa_cons (pe_ifExp (pt_cmpR (opNeS hu64) (pn 0) pe_str (nomark _)) (pe_split (pn 0) pe_str) (pe_lst pa_nil)) pa_nil)) (pg_tup (by rfl) (pgs_cons (pg_name (i := 2) nd rfl (Or.inl rfl)) (pgs_cons (pg_name (i := 3) nd rfl (Or.inl rfl)) pgs_nil))) (pss_cons (ps_set (i := 4) nd rfl (Or.inl rfl) (pe_fn D_operation_in (hr.mono (by decide)) tk (pa_cons (pn 3) pa_nil)))
      (pss_cons (ps_if (PW.pt (pw_or (pt_cmpR opIs (pn 4) pe_non (nomark _)) (pw_or1 (pt_cmpR (opEqT hu64) (pn 2) (pe_g C_MOST_OPERATIONS) (nomark _))))) (pss_one (ps_err E_BadText hc (hr.mono (by decide)) tk (pe_op opAdd (pn 2) pe_int))) pss_nil)
      (pss_one (ps_expr (pe_bm PySem.F.plainAttrs_list PySem.F.slot_list_append PySem.F.type_list_append mtAppend (pn 1) (pa_cons (pn 4) pa_nil)))))))
      (pss_one (ps_ret (pe_callTy callTuple (by rfl) B.tuple boot_tuple (pa_cons (pn 1) pa_nil))))))), ?_⟩
  exact body_ok (pin := [0]) (bs := [true]) (k := 4) (mb := (mThen (mIf (mBr (mTest T.tru (mPrim (pIsi "str") (mCons true (mName 0) mNil))) (mPure false) (mPure true)) (mRaise "BadText" (mC (.int (1)))) .nx)
  (mThen (mSet 1 (mLst mNil))
  (mThen (mFor (mEnV (mBr (mTest T.bool (mOp pNe true (mName 0) (mC (.str "")))) (mM1 pSplit (mName 0) (mC (.str "
"))) (mLst mNil))) (gmTup 2 (gmCons (gmName 2) (gmCons (gmName 3) gmNil))) (mThen (mSet 4 (mCallR F_operation_in (mCons true (mName 3) mNil)))
  (mThen (mIf (mBr (mTest T.bool (mOp pIs true (mName 4) (mC .non))) (mPure true) (mTest T.bool (mOp pEq2 true (mName 2) (mC (.int (60)))))) (mRaise "BadText" (mOp pAdd true (mName 2) (mC (.int (1))))) .nx)
  (mDrop (mMethN 1 fAppend (mCons true (mName 4) mNil))))))
  (mRet (mPrim pTuple (mCons true (mName 1) mNil))))))) (show SS ⟨c.base, [0], L2.start ["text", "found", "at", "line", "operation"] vs⟩ (fun cls d _ H => E cls d H) _ _ from (SS.seq (SS.ifs (ST.not (SV.truth (SV.isi "str" sv_name))) (SS.raise "BadText" (sv_c fun _ _ _ => .int _)) SS.next)
      (SS.seq (SS.set 1 (show 1 ∉ ([0] : List Nat) by decide) (SV.lst SA.nil))
      (SS.seq (SS.for_ (SI.enumV (ST.ife (SV.test (SV.op pr_ne sv_name (sv_c fun _ _ _ => .str _))) (SV.met1 pr_split sv_name (sv_c fun _ _ _ => .str _)) (SV.lst SA.nil))) (SG.tup (SGs.cons (SG.name 2 (show 2 ∉ ([0] : List Nat) by decide)) (SGs.cons (SG.name 3 (show 3 ∉ ([0] : List Nat) by decide)) SGs.nil))) (SS.seq (SS.set 4 (show 4 ∉ ([0] : List Nat) by decide) (SV.callR ln_operation_in (SA.cons sv_name SA.nil)))
      (SS.seq (SS.ifs (ST.or (SV.test (SV.op pr_is sv_name (sv_c fun _ _ _ => .non))) (SV.test (SV.op pr_eq2 sv_name (sv_c fun _ _ _ => .int _)))) (SS.raise "BadText" (SV.op pr_add sv_name (sv_c fun _ _ _ => .int _))) SS.next)
      (SS.drop (SV.methN mu_append (SA.cons sv_name SA.nil))))))
      (SS.ret (SV.cb pr_tuple (SA.cons sv_name SA.nil))))))) (by decide) rfl h
end
end Rm
/-! Rm, part ZU: x[:e], e one that may change things. -/
/-! Rm, part TH: x[e:], e one that may change things. -/
namespace Rm
open PySem PySem.Spec L2
open PyProof.Rows hiding St
def pSlFr : List T → Option Ent := fun ts => match ts with
  | [u, .int j] => pSl (some j) none [u]
  | _ => none
def rSlFr : R2 := fun x y H Q => ∃ j, y = .int j ∧ rSlice x (some j) none H Q
theorem pr_slFr {ca : Ks} : Prim ca (r2L rSlFr) pSlFr := ⟨fun P Z H w vs ts Q b o h => by
  unfold pSlFr at h
  split at h
  · obtain ⟨x, g, y, f, rfl, h1, h2⟩ := o.i2
    obtain rfl := ow_int h2
    exact ⟨_, rfl, (pr_sl (some _) none).go P Z H w [x] _ Q b (.cons h1 .nil) h⟩
  · exact h.elim⟩
theorem SV.slFr {c : VC} {W : WX} {r1 r2 : Bool} {t t2 : TE} {m m2 : List Ent → R Ent} (h1 : SV c W r1 t m) (h2 : SV c W r2 t2 m2) : SV c W (r1 && r2) (tSl rSlice t (tPart t2) tNoPart) (mOp pSlFr r2 m m2) := SV.op pr_slFr h1 h2
end Rm
/-! Rm, part TI: a text times a whole number above one. -/
namespace Rm
open PySem PySem.Spec L2
open PyProof.Rows hiding St
def mulSB (z : Str) (k : Int) : Bool := decide (1 < k) && (decide (k ≤ 100000) && Nat.ble (z.length * k.toNat) 1000000)
def rMulS : R2 := fun x y H Q => ∃ z k, x = .str z ∧ y = .int k ∧ mulSB z k = true ∧ Q (.str (Txt.mul z k)) H
theorem mulSB_ok {z : Str} {k : Int} (h : mulSB z k = true) : MulOk z k := by
  unfold mulSB at h
  simp only [Bool.and_eq_true, decide_eq_true_eq] at h
  obtain ⟨h1, h2, h3⟩ := h
  have h3 := Nat.le_of_ble_eq_true h3
  refine ⟨?_, fun _ _ => ?_, fun _ _ => ?_⟩
  · rw [decide_eq_false (by omega), decide_eq_false (by omega)]; rfl
  · intro q
    have h5 : (z.length : Int) ≤ 1000000 := by
      have : z.length * 1 ≤ z.length * k.toNat := Nat.mul_le_mul_left _ (by omega)
      omega
    have h6 : (1000000 : Int) ≤ (2 ^ 63 - 1) / k := by
      refine (Int.le_ediv_iff_mul_le (by omega)).mpr ?_
      have : (1000000 : Int) * k ≤ 1000000 * 100000 := Int.mul_le_mul_of_nonneg_left h2 (by decide)
      omega
    omega
  · unfold Builtin.Str.tooLong
    refine decide_eq_false fun q => ?_
    have : sizeLine = 16777216 := by decide
    omega
theorem opMulS {X : Cx} : OpR X (binaryOp .Mult) rMulS := by
  intro pins s σ H x y v u Q I rx ry h
  obtain ⟨z, k, rfl, rfl, q, h⟩ := h
  obtain ⟨t, rfl⟩ := rx
  obtain ⟨t', rfl⟩ := ry
  exact SB.mul (mulSB_ok q) fun t' k => ⟨.str _, H, I.tok _, ⟨_, rfl⟩, h⟩
def pMulS : List T → Option Ent := fun ts => match ts with
  | [.str z, .int k] => if mulSB z k = true then oS (Txt.mul z k) else none
  | _ => none
theorem pr_mulS {ca : Ks} : Prim ca (r2L rMulS) pMulS := ⟨fun P Z H w vs ts Q b o h => by
  unfold pMulS at h
  split at h
  · obtain ⟨x, g, y, f, rfl, h1, h2⟩ := o.i2
    obtain rfl := ow_str h1; obtain rfl := ow_int h2
    split at h
    · rename_i q
      exact ⟨_, _, rfl, rfl, q, h.now b (.own (.str _))⟩
    · exact h.elim
  · exact h.elim⟩
end Rm
/-! Rm, part TJ: x[call] = v for a list. -/
namespace Rm
open PySem PySem.Spec L2
open PyProof.Rows hiding St
variable [Tb]
/-- x[ix] = v, x a name of a list, ix changes other things -/
def mSetIL (i : Nat) (mi me : List Ent → R Ent) : List Ent → O := fun ρ => (me ρ).then fun e ρ1 => match ρ1[i]? with
  | some (.own _) => (mi ρ1).then fun ei ρ2 => (match ρ2[i]?, e.keep, ei.t with
    | some (.own (.lst true ts)), some t, .int j => (match ixN ts.length j with
      | some n => .nx (ρ2.set i (.own (.lst true (ts.set n t))))
      | none => .fail)
    | _, _, _ => .fail)
  | _ => .fail
theorem SS.setIL {F : FC} {W : WX} {r r2 : Bool} {te ti : TE} {i : Nat} {me mi : List Ent → R Ent} (hi : SV F.c W r2 ti mi) (he : SV F.c W r te me) : SS F W (tAsg te (gSub (tV i) ti rStore)) (mSetIL i mi me) := by
  refine ⟨fun M P Z H σ ρ w D mp' b s pn hf => ?_⟩
  refine he.go M P Z H σ ρ w _ mp' b s ?_
  unfold mSetIL at hf
  cases e : me ρ with
  | fail => rw [e] at hf; exact hf
  | err C d ρ' => rw [e] at hf; exact fin_err pn hf
  | ok en ρ1 =>
    rw [e] at hf
    dsimp only [R.then] at hf
    intro y H1 Z1 fp w1 z1 n1 b1 ev s1 ro
    unfold gSub tV
    split at hf
    rotate_left
    · exact hf.elim
    rename_i u0 ei0
    obtain ⟨v, ev1, _⟩ := FocS.name s1 ei0
    rw [ev1]
    refine hi.go M (Rm.out w1 H1) Z1 H1 σ ρ1 w1 _ (mp'.trans b1.le) b1.out s1 ?_
    cases e3 : mi ρ1 with
    | fail => rw [e3] at hf; exact hf
    | err C d ρ3 =>
      rw [e3] at hf
      exact fun x vd H3 Z3 w3 z3 n3 b3 hx o s3 => fin_err pn hf x vd H3 Z3 w3 (z1.trans z3) (n1.trans (n3.of b1.le)) (b3.less b1.le) hx o s3
    | ok ei ρ3 =>
      rw [e3] at hf
      dsimp only at hf ⊢
      intro iv H3 Z3 fi w3 z3 n3 b3 evi s3 ro3
      obtain ⟨gi, oi⟩ := evi.ow
      have b3' := Base.join (fp := fp) (f := []) (w' := w3) b1 b3.drop n3
      rw [List.append_nil] at b3'
      split at hf
      rotate_left
      · exact hf.elim
      rename_i ts t jj et3 et eq
      split at hf
      rotate_left
      · exact hf.elim
      rename_i n en'
      have ot := (ev.keep et).mono z3 fun a q o y => b3.m a o (b1.keep a q o y)
      obtain ⟨v', ev2, fo3⟩ := FocS.name s3 et3
      rw [ev1] at ev2
      cases ev2
      rw [eq] at oi
      obtain rfl := ow_int oi
      obtain ⟨a, xs, rfl, ea, el, kk⟩ := FocS.lst b3' fo3
      have hn : n < ts.length := (ixN_seq en').2.1
      obtain ⟨w4, b4, s4⟩ := kk (xs' := xs.set n y) (ts' := ts.set n t) (fun f0 A => by
        obtain ⟨l, m, r, y0, f1, f2, o1, k1⟩ := A.foc (List.getElem?_eq_getElem hn)
        exact ⟨_, fun x => by rw [f1]; simp only [cnt_app]; omega, k1 (v' := y) (u' := t) (fun _ _ _ y => y) (Ext.refl _) ot⟩)
      simp only [rStore, ea, el, en']
      exact hf σ _ Z3 w4 (z1.trans z3) (n1.trans (n3.of b1.le)) b4 s4 pn
theorem w_setIL {i : Nat} {mi me : List Ent → R Ent} {ρ : List Ent} {D : OK} : (mSetIL i mi me ρ).w D = (me ρ).w (fun e ρ1 => tW (match ρ1[i]? with | some (.own t) => some t | _ => none) fun _ => (mi ρ1).w (fun ei ρ2 => tW (match ρ2[i]?, e.keep, ei.t with | some (.own (.lst true ts)), some t, .int j => (match ixN ts.length j with | some n => some (ts.set n t) | none => none) | _, _, _ => none) fun us => D.nx (ρ2.set i (.own (.lst true us)))) D.er) D.er := by
  unfold mSetIL
  rw [w_then]
  congr 1
  funext e ρ1
  cases h1 : ρ1[i]? with
  | none => rfl
  | some u =>
    cases u with
    | own t =>
      dsimp only [tW]
      rw [w_then]
      congr 1
      funext ei ρ2
      cases h2 : ρ2[i]? with
      | none => rfl
      | some u2 =>
        cases u2 with
        | own t2 =>
          cases t2 with
          | lst o ts =>
            cases o with
            | false => rfl
            | true =>
              cases h3 : e.keep with
              | none => rfl
              | some t3 =>
                cases h4 : ei.t with
                | int j =>
                  dsimp only
                  cases h5 : ixN ts.length j with
                  | none => rfl
                  | some n => rfl
                | _ => rfl
          | _ => rfl
        | _ => rfl
    | _ => rfl
end Rm
namespace Rm
open PySem PySem.Spec L2
open PyProof.Rows hiding St
abbrev s_law_tape : Stmt := topS 30
theorem sc_law_tape : FnScope ["_law_script", "_law_start", "_law_mixed", "_law_cell", "_law_digits"] ["_law_script", "_law_start"] (defScope s_law_tape) := ⟨rfl, rfl, rfl, by decide +kernel, rfl, by decide +kernel, by decide +kernel⟩
abbrev s_law_pick : Stmt := topS 31
theorem sc_law_pick : FnScope ["_law_tape_here", "_law_many", "_law_found_here", "_law_once"] ["_law_tape_here", "_law_many"] (defScope s_law_pick) := ⟨rfl, rfl, rfl, by decide +kernel, rfl, by decide +kernel, by decide +kernel⟩
abbrev s_law_one_of : Stmt := topS 32
theorem sc_law_one_of : FnScope ["_law_tape_here", "_law_items"] ["_law_tape_here", "_law_items"] (defScope s_law_one_of) := ⟨rfl, rfl, rfl, by decide +kernel, rfl, by decide +kernel, by decide +kernel⟩
abbrev s_law_any : Stmt := topS 33
theorem sc_law_any : FnScope ["_law_tape_here", "_law_some"] ["_law_tape_here"] (defScope s_law_any) := ⟨rfl, rfl, rfl, by decide +kernel, rfl, by decide +kernel, by decide +kernel⟩
abbrev s_law_deeds_text : Stmt := topS 41
abbrev scO_law_deeds_text : Scope := { kind := .function, names := [(".0", .local), ("_law_deed", .local)], isGenerator := false, isCoroutine := false }
abbrev scI_law_deeds_text : Scope := { kind := .function, names := [(".0", .local), ("_law_part", .local), ("str", .globalImplicit)], isGenerator := false, isCoroutine := false }
theorem sc_law_deeds_text : FnScope ["_law_history", "_law_part", "_law_deed"] ["_law_history"] (defScope s_law_deeds_text) := ⟨rfl, rfl, rfl, by decide +kernel, rfl, by decide +kernel, by decide +kernel⟩
abbrev s_law_bent : Stmt := topS 42
theorem sc_law_bent : FnScope ["_law_tape_here", "_law_text", "_law_odd", "_law_road", "_law_at", "_law_lines", "_law_some", "_law_words", "_law_one", "_law_signs", "_law_sign"] ["_law_tape_here", "_law_text", "_law_odd"] (defScope s_law_bent) := ⟨rfl, rfl, rfl, by decide +kernel, rfl, by decide +kernel, by decide +kernel⟩
abbrev s_law_nym : Stmt := topS 39
theorem sc_law_nym : FnScope ["_law_tape_here", "_law_letters", "_law_k"] ["_law_tape_here"] (defScope s_law_nym) := ⟨rfl, rfl, rfl, by decide +kernel, rfl, by decide +kernel, by decide +kernel⟩
abbrev s_law_some_deed : Stmt := topS 40
theorem sc_law_some_deed : FnScope ["_law_tape_here", "_law_word", "_law_number_here", "_law_name", "_law_value_here"] ["_law_tape_here"] (defScope s_law_some_deed) := ⟨rfl, rfl, rfl, by decide +kernel, rfl, by decide +kernel, by decide +kernel⟩
abbrev s_law_found : Stmt := topS 43
theorem sc_law_found : FnScope ["_law_text", "e"] ["_law_text"] (defScope s_law_found) := ⟨rfl, rfl, rfl, by decide +kernel, rfl, by decide +kernel, by decide +kernel⟩
abbrev s_law_number : Stmt := topS 35
theorem sc_law_number : FnScope ["_law_word", "_law_low", "_law_high", "_law_sign"] ["_law_word", "_law_low", "_law_high"] (defScope s_law_number) := ⟨rfl, rfl, rfl, by decide +kernel, rfl, by decide +kernel, by decide +kernel⟩
abbrev s_law_value : Stmt := topS 36
theorem sc_law_value : FnScope ["_law_word", "_law_found_here"] ["_law_word"] (defScope s_law_value) := ⟨rfl, rfl, rfl, by decide +kernel, rfl, by decide +kernel, by decide +kernel⟩
abbrev s_law_is_name : Stmt := topS 34
theorem sc_law_is_name : FnScope ["_law_value_here", "_law_sign"] ["_law_value_here"] (defScope s_law_is_name) := ⟨rfl, rfl, rfl, by decide +kernel, rfl, by decide +kernel, by decide +kernel⟩
abbrev s_law_deed_of : Stmt := topS 37
theorem sc_law_deed_of : FnScope ["_law_line", "_law_words", "_law_found_here", "_law_number_here", "_law_size", "_law_value_here"] ["_law_line"] (defScope s_law_deed_of) := ⟨rfl, rfl, rfl, by decide +kernel, rfl, by decide +kernel, by decide +kernel⟩
abbrev s_law_history_of : Stmt := topS 38
theorem sc_law_history_of : FnScope ["_law_text", "_law_found_here", "_law_at", "_law_line", "_law_deed"] ["_law_text"] (defScope s_law_history_of) := ⟨rfl, rfl, rfl, by decide +kernel, rfl, by decide +kernel, by decide +kernel⟩
abbrev s_law : Stmt := topS 44
theorem sc_law : FnScope ["_law_script", "_law_odd", "_law_start", "_law_tape_here", "_law_turn", "_law_text", "_law_k", "_law_change", "_law_value_here", "_law_long", "_law_cases", "_law_signs", "_law_one", "_law_seen"] ["_law_script"] (defScope s_law) := ⟨rfl, rfl, rfl, by decide +kernel, rfl, by decide +kernel, by decide +kernel⟩
def F_law_tape : List Ent → R Ent := mDef [true, true] 3 (mThen (mSet 2 (mOp pAdd true (mC (.int (89))) (mOp pMul true (mName 1) (mC (.int (37))))))
  (mThen (mFor (mItV (mName 0)) (gmName 3) (mSet 2 (mOp pAdd true (mOp pMod true (mPrim pInt (mCons true (mOp pPow true (mOp pAdd true (mOp pAdd true (mOp pMul true (mName 2) (mC (.int (30013)))) (mOp pMul true (mName 3) (mName 3))) (mC (.int (11)))) (mC (.int (2)))) mNil)) (mC (.int (2147483563)))) (mC (.int (2))))))
  (mThen (mSet 4 (mBr (mBr (mTest T.bool (mOp pLt true (mName 1) (mPrim pLen (mCons true (mName 0) mNil)))) (mTest T.bool (mOp pGe true (mOp pItem true (mName 0) (mName 1)) (mOp pPow true (mC (.int (10))) (mC (.int (18)))))) (mPure false)) (mOp pSub true (mOp pItem true (mName 0) (mName 1)) (mOp pPow true (mC (.int (10))) (mC (.int (18))))) (mC (.int (0)))))
  (mRet (mDisp (mDCons (mC (.str "digits")) (mName 4) (mDCons (mC (.str "mixed")) (mName 2) mDNil)))))))
theorem ln_law_tape : ∀ ρ, ρ.length ≠ 2 → F_law_tape ρ = .fail := mDef_len (bs := [true, true])
def F_law_pick : List Ent → R Ent := mDef [true, true] 2 (mThen (mIf (mTest T.bool (mOp pGe true (mOp pItem true (mName 0) (mC (.str "digits"))) (mName 1))) (mThen (mSet 2 (mOp pMod true (mPrim pInt (mCons true (mOp pItem true (mName 0) (mC (.str "digits"))) mNil)) (mName 1)))
  (mThen (mSetI 0 (mPlName 0) (mC (.str "digits")) (mOp pDiv true (mOp pItem true (mName 0) (mC (.str "digits"))) (mName 1)))
  (mRet (mMove 2)))) .nx)
  (mThen (mSetI 0 (mPlName 0) (mC (.str "mixed")) (mOp pMod true (mPrim pInt (mCons true (mOp pAdd true (mOp pMul true (mOp pItem true (mName 0) (mC (.str "mixed"))) (mC (.int (40014)))) (mC (.int (1017)))) mNil)) (mC (.int (2147483563)))))
  (mThen (mSet 3 (mOp pMod true (mPrim pInt (mCons true (mOp pPow true (mOp pItem true (mName 0) (mC (.str "mixed"))) (mC (.int (2)))) mNil)) (mC (.int (2147483399)))))
  (mRet (mOp pMod true (mPrim pInt (mCons true (mOp pDiv true (mOp pMod true (mPrim pInt (mCons true (mOp pPow true (mName 3) (mC (.int (3)))) mNil)) (mC (.int (998244353)))) (mC (.int (7)))) mNil)) (mName 1))))))
theorem ln_law_pick : ∀ ρ, ρ.length ≠ 2 → F_law_pick ρ = .fail := mDef_len (bs := [true, true])
def F_law_one_of : List Ent → R Ent := mDef [true, true] 0 (mRet (mOp pItem false (mName 1) (mCallW [.io 0, .val] F_law_pick (mKNo 0 (mCons false (mPrim pLen (mCons true (mName 1) mNil)) mNil)))))
theorem ln_law_one_of : ∀ ρ, ρ.length ≠ 2 → F_law_one_of ρ = .fail := mDef_len (bs := [true, true])
def F_law_any : List Ent → R Ent := mDef [true] 1 (mThen (mAsg (mC (enc (.list [.none, (.bool true), (.bool false), (.int (0)), (.int (1)), (.int (2)), (.int (7)), (.int (0 - 1)), (.int (10 ^ ((40 : Int)).toNat)), (.str ""), (.str "a"), (.str "x"), (.str "hold"), (.str "locks"), (.str "Hold"), (.str "change ")]))) (gmName 1))
  (mThen (mAsg (mOp pAdd true (mName 1) (mC (enc (.list [(.str "abcdefg"), (.tuple []), (.list []), (.dict []), (.tuple [(.int (1))]), (.list [(.int (1))]), (.dict [(keyD (.inr "x"), (.int (1)))]), (.tuple [(.int (1)), (.str "locks"), (.str "hold")]), (.tuple [(.str "hold")]), (.list [(.str "hold")]), (.str "1")])))) (gmName 1))
  (mRet (mCallW [.io 0, .val] F_law_one_of (mKNo 0 (mCons false (mName 1) mNil))))))
theorem ln_law_any : ∀ ρ, ρ.length ≠ 1 → F_law_any ρ = .fail := mDef_len (bs := [true])
def F_law_deeds_text : List Ent → R Ent := mDef [true] 2 (mRet (mM1 pJoin (mC (.str "
")) (mLc [2] (mItV (mName 0)) (gmName 2) (mPure true) (mM1 pJoin (mC (.str " ")) (mLc [1] (mItV (mName 2)) (gmName 1) (mPure true) (mPrim pStr (mCons true (mName 1) mNil)))))))
theorem ln_law_deeds_text : ∀ ρ, ρ.length ≠ 1 → F_law_deeds_text ρ = .fail := mDef_len (bs := [true])
def F_law_bent : List Ent → R Ent := mDef [true, true, true] 8 (mThen (mSet 3 (mCallW [.io 0, .val] F_law_pick (mKNo 0 (mCons false (mC (.int (7))) mNil))))
  (mThen (mIf (mTest T.bool (mOp pEq2 true (mName 3) (mC (.int (6))))) (mThen (mSet 4 (mCallW [.io 0, .val] F_law_pick (mKNo 0 (mCons false (mFz (mOp pAdd true (mPrim pLen (mCons true (mName 1) mNil)) (mC (.int (1))))) mNil))))
  (mRet (mOp pAdd true (mOp pAdd true (mSlice (mName 1) (mPure none) (mPart (mName 4))) (mM0 pUpper (mSlice (mName 1) (mPart (mName 4)) (mPart (mOp pAdd true (mName 4) (mC (.int (1)))))))) (mSlice (mName 1) (mPart (mOp pAdd true (mName 4) (mC (.int (1))))) (mPure none))))) .nx)
  (mThen (mIf (mTest T.bool (mOp pLt true (mName 3) (mC (.int (2))))) (mThen (mSet 5 (mM1 pSplit (mName 1) (mC (.str "
"))))
  (mThen (mSet 4 (mCallW [.io 0, .val] F_law_pick (mKNo 0 (mCons false (mPrim pLen (mCons true (mName 5) mNil)) mNil))))
  (mThen (mAsg (mLst (mCons true (mOp pAdd true (mSlice (mName 5) (mPure none) (mPart (mName 4))) (mSlice (mName 5) (mPart (mOp pAdd true (mName 4) (mC (.int (1))))) (mPure none))) (mCons true (mOp pAdd true (mOp pAdd true (mSlice (mName 5) (mPure none) (mPart (mName 4))) (mSlice (mName 5) (mPart (mName 4)) (mPart (mOp pAdd true (mName 4) (mC (.int (1))))))) (mSlice (mName 5) (mPart (mName 4)) (mPure none))) (mCons true (mOp pAdd true (mOp pAdd true (mSlice (mName 5) (mPure none) (mPart (mName 4))) (mC (enc (.list [(.str "")])))) (mSlice (mName 5) (mPart (mName 4)) (mPure none))) mNil)))) (gmName 6))
  (mThen (mAsg (mOp pAdd true (mName 6) (mLst (mCons true (mFz (mOp pAdd true (mName 5) (mC (enc (.list [(.str "")]))))) (mCons true (mFz (mOp pAdd true (mOp pAdd true (mSlice (mName 5) (mPure none) (mPart (mName 4))) (mPrim pRev (mCons true (mSlice (mName 5) (mPart (mName 4)) (mPart (mOp pAdd true (mName 4) (mC (.int (2)))))) mNil))) (mSlice (mName 5) (mPart (mOp pAdd true (mName 4) (mC (.int (2))))) (mPure none)))) mNil)))) (gmName 6))
  (mRet (mM1 pJoin (mC (.str "
")) (mCallW [.io 0, .val] F_law_one_of (mKNo 0 (mCons false (mName 6) mNil))))))))) .nx)
  (mThen (mIf (mTest T.bool (mOp pLt true (mName 3) (mC (.int (4))))) (mThen (mSet 7 (mM1 pSplit (mName 1) (mC (.str " "))))
  (mThen (mPar 4 8 (mCons false (mCallW [.io 0, .val] F_law_pick (mKNo 0 (mCons false (mPrim pLen (mCons true (mName 7) mNil)) mNil))) (mCons true (mCallW [.io 0, .val] F_law_one_of (mKNo 0 (mCons false (mName 2) mNil))) mNil)))
  (mThen (mAsg (mLst (mCons true (mOp pAdd true (mSlice (mName 7) (mPure none) (mPart (mName 4))) (mSlice (mName 7) (mPart (mOp pAdd true (mName 4) (mC (.int (1))))) (mPure none))) (mCons true (mOp pAdd true (mOp pAdd true (mSlice (mName 7) (mPure none) (mPart (mName 4))) (mLst (mCons true (mName 8) mNil))) (mSlice (mName 7) (mPart (mName 4)) (mPure none))) (mCons true (mOp pAdd true (mOp pAdd true (mSlice (mName 7) (mPure none) (mPart (mName 4))) (mLst (mCons true (mName 8) mNil))) (mSlice (mName 7) (mPart (mOp pAdd true (mName 4) (mC (.int (1))))) (mPure none))) mNil)))) (gmName 6))
  (mRet (mM1 pJoin (mC (.str " ")) (mCallW [.io 0, .val] F_law_one_of (mKNo 0 (mCons false (mName 6) mNil)))))))) .nx)
  (mThen (mAsg (mC (enc (.list [(.str ""), (.str " "), (.str "0"), (.str "-"), (.str "
"), (.str ","), (.str "a"), (.str "Z"), (.str "9"), (.str "_"), (.str "	")]))) (gmName 9))
  (mThen (mPar 4 10 (mCons false (mCallW [.io 0, .val] F_law_pick (mKNo 0 (mCons false (mFz (mOp pAdd true (mPrim pLen (mCons true (mName 1) mNil)) (mC (.int (1))))) mNil))) (mCons true (mCallW [.io 0, .val] F_law_one_of (mKNo 0 (mCons false (mName 9) mNil))) mNil)))
  (mRet (mOp pAdd false (mOp pAdd true (mSlice (mName 1) (mPure none) (mPart (mName 4))) (mName 10)) (mOp pSlFr false (mName 1) (mOp pAdd false (mName 4) (mCallW [.io 0, .val] F_law_pick (mKNo 0 (mCons false (mC (.int (2))) mNil)))))))))))))
theorem ln_law_bent : ∀ ρ, ρ.length ≠ 3 → F_law_bent ρ = .fail := mDef_len (bs := [true, true, true])
def F_law_nym : List Ent → R Ent := mDef [true] 2 (mThen (mAsg (mC (.str "abcdefghijklmnopqrstuvwxyz")) (gmName 1))
  (mRet (mM1 pJoin (mC (.str "")) (mLc [2] (mRange1 (mOp pAdd false (mC (.int (1))) (mCallW [.io 0, .val] F_law_pick (mKNo 0 (mCons false (mC (.int (6))) mNil))))) (gmName 2) (mPure true) (mCallW [.io 0, .val] F_law_one_of (mKNo 0 (mCons false (mName 1) mNil)))))))
theorem ln_law_nym : ∀ ρ, ρ.length ≠ 1 → F_law_nym ρ = .fail := mDef_len (bs := [true])
def F_law_some_deed : List Ent → R Ent := mDef [true] 4 (mThen (mSet 1 (mCallW [.io 0, .val] F_law_one_of (mKNo 0 (mCons false (mC (enc (.list [(.str "begin"), (.str "crash"), (.str "clean"), (.str "horizon"), (.str "save"), (.str "release"), (.str "back"), (.str "commit"), (.str "abort")]))) mNil))))
  (mThen (mSet 1 (mCallW [.io 0, .val] F_law_one_of (mKNo 0 (mCons false (mFz (mLst (mCons true (mName 1) (mCons true (mC (.str "prepare")) (mCons true (mC (.str "lock")) (mCons true (mC (.str "lock")) (mCons true (mC (.str "change")) (mCons true (mC (.str "change")) mNil)))))))) mNil))))
  (mThen (mIf (mTest T.bool (mOp (pMem false) true (mName 1) (mC (enc (.tuple [(.str "begin"), (.str "crash"), (.str "clean")]))))) (mRet (mSeq true (mCons true (mName 1) mNil))) .nx)
  (mThen (mIf (mTest T.bool (mOp pEq2 true (mName 1) (mC (.str "horizon")))) (mRet (mSeq true (mCons false (mName 1) (mCons true (mCallW [.io 0, .val] F_law_one_of (mKNo 0 (mCons false (mC (enc (.list [(.int (0)), (.int (1)), (.int (10)), (.int (59)), (.int (60))]))) mNil))) mNil)))) .nx)
  (mThen (mSet 2 (mCallW [.io 0, .val] F_law_one_of (mKNo 0 (mCons false (mC (enc (.list [(.int (1)), (.int (2)), (.int (9)), (.int (10)), (.int (101)), (.int (10 ^ ((6 : Int)).toNat))]))) mNil))))
  (mThen (mIf (mTest T.bool (mOp (pMem true) true (mName 1) (mC (enc (.tuple [(.str "lock"), (.str "change")]))))) (mRet (mSeq true (mCons true (mName 1) (mCons true (mName 2) mNil)))) .nx)
  (mThen (mSet 3 (mCallW [.io 0, .val] F_law_one_of (mKNo 0 (mCons false (mFz (mOp pAdd false (mC (enc (.list [(.str "x"), (.str "y"), (.str "ab"), (.str "lock"), (.str "set"), (.str "abcdef")]))) (mOp pMul true (mLst (mCons true (mCallW [.io 0] F_law_nym (mKNo 0 mNil)) mNil)) (mC (.int (3)))))) mNil))))
  (mThen (mIf (mTest T.bool (mOp pEq2 true (mName 1) (mC (.str "lock")))) (mRet (mSeq true (mCons false (mName 1) (mCons false (mName 2) (mCons false (mName 3) (mCons true (mCallW [.io 0, .val] F_law_one_of (mKNo 0 (mCons false (mC (enc (.list [(.str "hold"), (.str "keep"), (.str "change"), (.str "replace")]))) mNil))) mNil)))))) .nx)
  (mThen (mSet 4 (mCallW [.io 0, .val] F_law_one_of (mKNo 0 (mCons false (mFz (mLst (mCons true (mC (.int (0))) (mCons true (mC (.int (7))) (mCons true (mOp pSub true (mC (.int (0))) (mC (.int (1)))) (mCons true (mOp pSub true (mC (.int (0))) (mC (.int (10)))) (mCons true (mC (.int (100))) (mCons true (mOp pSub true (mOp pPow true (mC (.int (10))) (mC (.int (30)))) (mC (.int (1)))) (mCons true (mOp pSub true (mC (.int (1))) (mOp pPow true (mC (.int (10))) (mC (.int (30))))) mNil))))))))) mNil))))
  (mRet (mSeq true (mCons false (mName 1) (mCons false (mName 2) (mCons false (mName 3) (mCons true (mCallW [.io 0, .val] F_law_one_of (mKNo 0 (mCons false (mC (enc (.list [(.str "change"), (.str "replace")]))) mNil))) (mCons true (mName 4) mNil))))))))))))))))
theorem ln_law_some_deed : ∀ ρ, ρ.length ≠ 1 → F_law_some_deed ρ = .fail := mDef_len (bs := [true])
def F_law_found : List Ent → R Ent := mDef [true] 1 (mTryAs 1 "BadText" "line" [] (mRet (mLst (mCons true (mC (.str "told")) (mCons true (mCallR F_read_history (mCons true (mName 0) mNil)) mNil)))) (mRet (mLst (mCons true (mC (.str "line")) (mCons true (mExc "line" 1) mNil)))))
theorem ln_law_found : ∀ ρ, ρ.length ≠ 1 → F_law_found ρ = .fail := mDef_len (bs := [true])
def F_law_number : List Ent → R Ent := mDef [true, true, true] 1 (mThen (mIf (mBr (mTest T.bool (mOp pEq2 true (mName 0) (mC (.str "")))) (mPure true) (mBr (mTest T.bool (mOp pNe true (mLc [3] (mItV (mName 0)) (gmName 3) (mBr (mTest T.bool (mChain pLe pLe true (mC (.str "0")) (mName 3) (mC (.str "9")))) (mPure false) (mPure true)) (mName 3)) (mLst mNil))) (mPure true) (mTest T.bool (mOp pGt true (mPrim pLen (mCons true (mName 0) mNil)) (mC (.int (30))))))) (mRet (mC .non)) .nx)
  (mThen (mIf (mBr (mTest T.bool (mOp pEq2 true (mOp pItem true (mName 0) (mC (.int (0)))) (mC (.str "0")))) (mTest T.bool (mOp pNe true (mName 0) (mC (.str "0")))) (mPure false)) (mRet (mC .non)) .nx)
  (mRet (mBr (mTest T.bool (mChain pLe pLe true (mName 1) (mPrim pInt2 (mCons true (mName 0) mNil)) (mName 2))) (mPrim pInt2 (mCons true (mName 0) mNil)) (mC .non)))))
theorem ln_law_number : ∀ ρ, ρ.length ≠ 3 → F_law_number ρ = .fail := mDef_len (bs := [true, true, true])
def F_law_value : List Ent → R Ent := mDef [true] 1 (mThen (mIf (mTest T.bool (mOp pEq2 true (mSlice (mName 0) (mPure none) (mPart (mC (.int (1))))) (mC (.str "-")))) (mThen (mSet 1 (mCallR F_law_number (mCons true (mSlice (mName 0) (mPart (mC (.int (1)))) (mPure none)) (mCons true (mC (.int (1))) (mCons true (mOp pPow true (mC (.int (10))) (mC (.int (30)))) mNil)))))
  (mRet (mBr (mTest T.bool (mOp pIs true (mName 1) (mC .non))) (mC .non) (mOp pSub true (mC (.int (0))) (mName 1))))) .nx)
  (mRet (mCallR F_law_number (mCons true (mName 0) (mCons true (mC (.int (0))) (mCons true (mOp pPow true (mC (.int (10))) (mC (.int (30)))) mNil))))))
theorem ln_law_value : ∀ ρ, ρ.length ≠ 1 → F_law_value ρ = .fail := mDef_len (bs := [true])
def F_law_is_name : List Ent → R Ent := mDef [true] 1 (mThen (mIf (mBr (mBr (mTest T.tru (mPrim (pIsi "str") (mCons true (mName 0) mNil))) (mPure false) (mPure true)) (mPure true) (mBr (mTest T.bool (mChain pLe pLe true (mC (.int (1))) (mPrim pLen (mCons true (mName 0) mNil)) (mC (.int (6))))) (mPure false) (mPure true))) (mRet (mC (.bl false))) .nx)
  (mRet (mOp pEq2 true (mLc [1] (mItV (mName 0)) (gmName 1) (mBr (mTest T.bool (mChain pLe pLe true (mC (.str "a")) (mName 1) (mC (.str "z")))) (mPure false) (mPure true)) (mName 1)) (mLst mNil))))
theorem ln_law_is_name : ∀ ρ, ρ.length ≠ 1 → F_law_is_name ρ = .fail := mDef_len (bs := [true])
def F_law_deed_of : List Ent → R Ent := mDef [true] 5 (mThen (mSet 1 (mM1 pSplit (mName 0) (mC (.str " "))))
  (mThen (mIf (mTest T.bool (mOp (pMemD false) true (mName 1) (mC (enc (.tuple [(.list [(.str "begin")]), (.list [(.str "crash")]), (.list [(.str "clean")])]))))) (mRet (mSeq true (mCons true (mOp pItem true (mName 1) (mC (.int (0)))) mNil))) .nx)
  (mThen (mIf (mBr (mTest T.bool (mOp pEq2 true (mPrim pLen (mCons true (mName 1) mNil)) (mC (.int (2))))) (mTest T.bool (mOp pEq2 true (mOp pItem true (mName 1) (mC (.int (0)))) (mC (.str "horizon")))) (mPure false)) (mThen (mSet 2 (mCallR F_law_number (mCons true (mOp pItem true (mName 1) (mC (.int (1)))) (mCons true (mC (.int (0))) (mCons true (mC (.int (60))) mNil)))))
  (mRet (mBr (mTest T.bool (mOp pIs true (mName 2) (mC .non))) (mC .non) (mSeq true (mCons true (mC (.str "horizon")) (mCons true (mName 2) mNil)))))) .nx)
  (mThen (mSet 3 (mBr (mTest T.bool (mOp pGt true (mPrim pLen (mCons true (mName 1) mNil)) (mC (.int (1))))) (mCallR F_law_number (mCons true (mOp pItem true (mName 1) (mC (.int (1)))) (mCons true (mC (.int (1))) (mCons true (mOp pPow true (mC (.int (10))) (mC (.int (6)))) mNil)))) (mC .non)))
  (mThen (mIf (mTest T.bool (mOp pIs true (mName 3) (mC .non))) (mRet (mC .non)) .nx)
  (mThen (mIf (mTest T.bool (mOp (pMem false) true (mOp pItem true (mName 1) (mC (.int (0)))) (mC (enc (.tuple [(.str "save"), (.str "release"), (.str "back"), (.str "commit"), (.str "abort"), (.str "prepare")]))))) (mRet (mBr (mTest T.bool (mOp pEq2 true (mPrim pLen (mCons true (mName 1) mNil)) (mC (.int (2))))) (mSeq true (mCons true (mOp pItem true (mName 1) (mC (.int (0)))) (mCons true (mName 3) mNil))) (mC .non))) .nx)
  (mThen (mSet 4 (mGet2 (mDisp (mDCons (mC (.str "lock")) (mC (.int (4))) (mDCons (mC (.str "change")) (mC (.int (5))) mDNil))) (mOp pItem true (mName 1) (mC (.int (0)))) (mC (.int (0)))))
  (mThen (mIf (mBr (mTest T.bool (mOp pNe true (mPrim pLen (mCons true (mName 1) mNil)) (mName 4))) (mPure true) (mBr (mTest T.tru (mCallR F_law_is_name (mCons true (mOp pItem true (mName 1) (mC (.int (2)))) mNil))) (mPure false) (mPure true))) (mRet (mC .non)) .nx)
  (mThen (mIf (mTest T.bool (mOp (pMem true) true (mOp pItem true (mName 1) (mC (.int (3)))) (mSlice (mC (enc (.list [(.str "hold"), (.str "keep"), (.str "change"), (.str "replace")]))) (mPart (mOp pMul true (mC (.int (2))) (mPrim pInt2 (mCons true (mOp pEq2 true (mName 4) (mC (.int (5)))) mNil)))) (mPure none)))) (mRet (mC .non)) .nx)
  (mThen (mIf (mTest T.bool (mOp pEq2 true (mName 4) (mC (.int (4))))) (mRet (mSeq true (mCons true (mC (.str "lock")) (mCons true (mName 3) (mCons true (mOp pItem true (mName 1) (mC (.int (2)))) (mCons true (mOp pItem true (mName 1) (mC (.int (3)))) mNil)))))) .nx)
  (mThen (mSet 5 (mCallR F_law_value (mCons true (mOp pItem true (mName 1) (mC (.int (4)))) mNil)))
  (mRet (mBr (mTest T.bool (mOp pIs true (mName 5) (mC .non))) (mC .non) (mSeq true (mCons true (mC (.str "change")) (mCons true (mName 3) (mCons true (mOp pItem true (mName 1) (mC (.int (2)))) (mCons true (mOp pItem true (mName 1) (mC (.int (3)))) (mCons true (mName 5) mNil)))))))))))))))))))
theorem ln_law_deed_of : ∀ ρ, ρ.length ≠ 1 → F_law_deed_of ρ = .fail := mDef_len (bs := [true])
def F_law_history_of : List Ent → R Ent := mDef [true] 4 (mThen (mIf (mBr (mTest T.tru (mPrim (pIsi "str") (mCons true (mName 0) mNil))) (mPure false) (mPure true)) (mRet (mC (enc (.list [(.str "line"), (.int (1))])))) .nx)
  (mThen (mSet 1 (mLst mNil))
  (mThen (mFor (mEnV (mBr (mTest T.bool (mOp pNe true (mName 0) (mC (.str "")))) (mM1 pSplit (mName 0) (mC (.str "
"))) (mLst mNil))) (gmTup 2 (gmCons (gmName 2) (gmCons (gmName 3) gmNil))) (mThen (mSet 4 (mCallR F_law_deed_of (mCons true (mName 3) mNil)))
  (mThen (mIf (mBr (mTest T.bool (mOp pIs true (mName 4) (mC .non))) (mPure true) (mTest T.bool (mOp pEq2 true (mName 2) (mC (.int (60)))))) (mRet (mLst (mCons true (mC (.str "line")) (mCons true (mOp pAdd true (mName 2) (mC (.int (1)))) mNil)))) .nx)
  (mDrop (mMethN 1 fAppend (mCons true (mName 4) mNil))))))
  (mRet (mLst (mCons true (mC (.str "told")) (mCons true (mPrim pTuple (mCons true (mName 1) mNil)) mNil)))))))
theorem ln_law_history_of : ∀ ρ, ρ.length ≠ 1 → F_law_history_of ρ = .fail := mDef_len (bs := [true])
def F_law : List Ent → R Ent := mDef [true] 13 (mThen (mAsg (mC (enc (.list [(.str ""), (.str "1"), (.str "0"), (.str "01"), (.str "-0"), (.str "-5"), (.str "+1"), (.str "1000000"), (.str "1000001"), (.str "x"), (.str "hold"), (.str "lock"), (.str "begin")]))) (gmName 1))
  (mThen (mAsg (mOp pAdd true (mName 1) (mC (enc (.list [(.str "60"), (.str "61"), (.str "abcdefg")])))) (gmName 1))
  (mThen (mFor (mRange1 (mPrim pMax (mCons true (mC (.int (1))) (mCons true (mPrim pMin (mCons true (mC (.int (3))) (mCons true (mPrim pLen (mCons true (mName 0) mNil)) mNil))) mNil)))) (gmName 2) (mThen (mSet 3 (mCallR F_law_tape (mCons true (mName 0) (mCons true (mName 2) mNil))))
  (mThen (mFor (mRange1 (mC (.int (12)))) (gmName 4) (mThen (mAsg (mCallR F_law_deeds_text (mCons true (mFz (mLc [6] (mRange1 (mCallW [.io 3, .val] F_law_pick (mKNo 3 (mCons false (mC (.int (10))) mNil)))) (gmName 6) (mPure true) (mCallW [.io 3] F_law_some_deed (mKNo 3 mNil)))) mNil)) (gmName 5))
  (mThen (mFor (mRange1 (mOp pAdd false (mC (.int (1))) (mCallW [.io 3, .val] F_law_pick (mKNo 3 (mCons false (mC (.int (3))) mNil))))) (gmName 7) (mAsg (mCallW [.io 3, .val, .val] F_law_bent (mKNo 3 (mCons false (mName 5) (mCons false (mName 1) mNil)))) (gmName 5)))
  (mIf (mTest T.bool (mOp pNe true (mPrim pRepr (mCons true (mCallR F_law_found (mCons true (mName 5) mNil)) mNil)) (mPrim pRepr (mCons true (mCallR F_law_history_of (mCons true (mName 5) mNil)) mNil)))) (mRet (mC (.bl false))) .nx))))
  (mThen (mSet 8 (mCallW [.io 3] F_law_any (mKNo 3 mNil)))
  (mThen (mSet 9 (mOp pMul false (mC (enc (.list [(.str "begin")]))) (mCallW [.io 3, .val] F_law_one_of (mKNo 3 (mCons false (mC (enc (.list [(.int (59)), (.int (60)), (.int (61)), (.int (65)), (.int (70))]))) mNil)))))
  (mThen (mSetIL 9 (mCallW [.io 3, .val] F_law_pick (mKNo 3 (mCons false (mPrim pLen (mCons true (mName 9) mNil)) mNil))) (mCallW [.io 3, .val] F_law_one_of (mKNo 3 (mCons false (mC (enc (.list [(.str "start"), (.str "Begin"), (.str "save 1"), (.str "")]))) mNil))))
  (mThen (mSet 10 (mLst (mCons true (mName 8) (mCons true (mC (.str "
")) (mCons true (mC (.str " ")) (mCons true (mC (.str "begin
")) (mCons true (mC (.str "
begin")) (mCons true (mOp pAdd true (mOp pMulS true (mC (.str "begin
")) (mC (.int (60)))) (mC (.str "begin"))) (mCons true (mOp pAdd true (mOp pMulS true (mC (.str "clean
")) (mC (.int (59)))) (mC (.str "clean"))) mNil)))))))))
  (mThen (mSet 10 (mOp pAdd true (mName 10) (mLst (mCons true (mFz (mM1 pJoin (mC (.str "
")) (mName 9))) (mCons true (mFz (mM1 pJoin (mC (.str "
")) (mOp pMul true (mC (enc (.list [(.str "clean")]))) (mC (.int (65)))))) mNil)))))
  (mThen (mAsg (mC (.str " !\"#$&'()*+,-./0123456789:;<=>?@ABCDEFGHIJKLMNOPQRSTUVWXYZ[\\]^_`abcdefghijklmnopqrstuvwxyz{|}~")) (gmName 11))
  (mThen (mDrop (mMethN 10 fAppend (mCons true (mOp pAdd true (mOp pAdd false (mC (.str "lock 1 a")) (mCallW [.io 3, .val] F_law_one_of (mKNo 3 (mCons false (mName 11) mNil)))) (mC (.str "b hold"))) mNil)))
  (mThen (mSet 10 (mOp pAdd true (mName 10) (mLst (mCons true (mC (.str "save 1_0")) (mCons true (mOp pAdd true (mC (.str "save ")) (mOp pMulS true (mC (.str "9")) (mC (.int (5000))))) (mCons true (mOp pAdd true (mC (.str "change 1 x change -")) (mOp pMulS true (mC (.str "9")) (mC (.int (5000))))) (mCons true (mC (.str "horizon 3	")) mNil)))))))
  (mFor (mItV (mOp pAdd true (mName 10) (mC (enc (.list [(.str "change 1 x change 7_0"), (.str "begin	clean")]))))) (gmName 12) (mThen (mSet 13 (mPrim pRepr (mCons true (mName 12) mNil)))
  (mIf (mBr (mTest T.bool (mOp pNe true (mPrim pRepr (mCons true (mCallR F_law_found (mCons true (mName 12) mNil)) mNil)) (mPrim pRepr (mCons true (mCallR F_law_history_of (mCons true (mName 12) mNil)) mNil)))) (mPure true) (mTest T.bool (mOp pNe true (mPrim pRepr (mCons true (mName 12) mNil)) (mName 13)))) (mRet (mC (.bl false))) .nx))))))))))))))
  (mRet (mC (.bl true))))))
section
variable {P : Program} {w : World} {K : PySem.W.Frag} {mg : Str → Option Value} {base : Heap} {c : VC}
theorem ok_law_tape {f0 : Addr} {fd0 : FuncData} (F : At K mg "_law_tape" "_law_tape" s_law_tape ["_law_script", "_law_start"] f0 fd0) (B : Bt mg)  : Def P w K mg base "_law_tape" ["_law_script", "_law_start"] 1 (spV0 c 2 F_law_tape) := by
  refine okD F sc_law_tape (fun vs H Q E h => spV_len h) (fun cdv A outer s H vs Q E hr tk po h => ?_)
  have hu := hu_of hr
  have hu64 := hr.units
  have hc := (show (true : Bool) = true from rfl)
  have nd := sc_law_tape.nd
  refine ⟨_, (pss_cons (ps_set (i := 2) nd rfl (Or.inl rfl) (pe_op opAdd pe_int (pe_op opMul (pn 1) pe_int)))
      (pss_cons (ps_for po hc (pi_any (pn 0)) (pg_name (i := 3) nd rfl (Or.inl rfl)) (pss_one (ps_set (i := 2) nd rfl (Or.inl rfl) (pe_op opAdd (pe_op opMod (pe_callTy callInt (by rfl) B.int boot_int (pa_cons (pe_op opPow (pe_op opAdd (pe_op opAdd (pe_op opMul (pn 2) pe_int) (pe_op opMul (pn 3) (pn 3))) pe_int) pe_int) pa_nil)) pe_int) pe_int))))
      (pss_cons (ps_set (i := 4) nd rfl (Or.inl rfl) (pe_ifExp (PW.pt (pw_and (pt_cmpR opLt (pn 1) (pe_callB callLen (by rfl) B.len bt_len (pa_cons (pn 0) pa_nil)) (nomark _)) (pw_and1 (pt_cmpR opGe (pe_ix (ixItem hu) (pn 0) (pn 1) (fun _ _ => rfl)) (pe_op opPow pe_int pe_int) (nomark _))))) (pe_op opSub (pe_ix (ixItem hu) (pn 0) (pn 1) (fun _ _ => rfl)) (pe_op opPow pe_int pe_int)) pe_int))
      (pss_one (ps_ret (pe_disp (pps_cons pe_str (pn 4) (pps_cons pe_str (pn 2) pps_nil)) (by rfl) (by rfl) (fun z => by cases z) (by decide))))))), ?_⟩
  exact body_ok (pin := [0, 1]) (bs := [true, true]) (k := 3) (mb := (mThen (mSet 2 (mOp pAdd true (mC (.int (89))) (mOp pMul true (mName 1) (mC (.int (37))))))
  (mThen (mFor (mItV (mName 0)) (gmName 3) (mSet 2 (mOp pAdd true (mOp pMod true (mPrim pInt (mCons true (mOp pPow true (mOp pAdd true (mOp pAdd true (mOp pMul true (mName 2) (mC (.int (30013)))) (mOp pMul true (mName 3) (mName 3))) (mC (.int (11)))) (mC (.int (2)))) mNil)) (mC (.int (2147483563)))) (mC (.int (2))))))
  (mThen (mSet 4 (mBr (mBr (mTest T.bool (mOp pLt true (mName 1) (mPrim pLen (mCons true (mName 0) mNil)))) (mTest T.bool (mOp pGe true (mOp pItem true (mName 0) (mName 1)) (mOp pPow true (mC (.int (10))) (mC (.int (18)))))) (mPure false)) (mOp pSub true (mOp pItem true (mName 0) (mName 1)) (mOp pPow true (mC (.int (10))) (mC (.int (18))))) (mC (.int (0)))))
  (mRet (mDisp (mDCons (mC (.str "digits")) (mName 4) (mDCons (mC (.str "mixed")) (mName 2) mDNil)))))))) (show SS ⟨c.base, [0, 1], L2.start ["_law_script", "_law_start", "_law_mixed", "_law_cell", "_law_digits"] vs⟩ (fun cls d _ H => E cls d H) _ _ from (SS.seq (SS.set 2 (show 2 ∉ ([0, 1] : List Nat) by decide) (SV.op pr_add (sv_c fun _ _ _ => .int _) (SV.op pr_mul sv_name (sv_c fun _ _ _ => .int _))))
      (SS.seq (SS.for_ (SI.any sv_name) (SG.name 3 (show 3 ∉ ([0, 1] : List Nat) by decide)) (SS.set 2 (show 2 ∉ ([0, 1] : List Nat) by decide) (SV.op pr_add (SV.op pr_mod (SV.cb pr_int (SA.cons (SV.op pr_pow (SV.op pr_add (SV.op pr_add (SV.op pr_mul sv_name (sv_c fun _ _ _ => .int _)) (SV.op pr_mul sv_name sv_name)) (sv_c fun _ _ _ => .int _)) (sv_c fun _ _ _ => .int _)) SA.nil)) (sv_c fun _ _ _ => .int _)) (sv_c fun _ _ _ => .int _))))
      (SS.seq (SS.set 4 (show 4 ∉ ([0, 1] : List Nat) by decide) (ST.ife (ST.and (SV.test (SV.op pr_lt sv_name (SV.cb pr_len (SA.cons sv_name SA.nil)))) (SV.test (SV.op pr_ge (SV.op pr_item sv_name sv_name) (SV.op pr_pow (sv_c fun _ _ _ => .int _) (sv_c fun _ _ _ => .int _))))) (SV.op pr_sub (SV.op pr_item sv_name sv_name) (SV.op pr_pow (sv_c fun _ _ _ => .int _) (sv_c fun _ _ _ => .int _))) (sv_c fun _ _ _ => .int _)))
      (SS.ret (SV.disp (SD.cons (sv_c fun _ _ _ => .str _) sv_name (SD.cons (sv_c fun _ _ _ => .str _) sv_name SD.nil)))))))) (by decide) rfl h
theorem ok_law_pick {f0 : Addr} {fd0 : FuncData} (F : At K mg "_law_pick" "_law_pick" s_law_pick ["_law_tape_here", "_law_many"] f0 fd0) (B : Bt mg)  : Def P w K mg base "_law_pick" ["_law_tape_here", "_law_many"] 1 (spV0 c 2 F_law_pick) := by
  refine okD F sc_law_pick (fun vs H Q E h => spV_len h) (fun cdv A outer s H vs Q E hr tk po h => ?_)
  have hu := hu_of hr
  have hu64 := hr.units
  have hc := (show (true : Bool) = true from rfl)
  have nd := sc_law_pick.nd
  refine ⟨_, (pss_cons (ps_if (pt_cmpR opGe (pe_ix (ixItem hu) (pn 0) pe_str (fun _ _ => rfl)) (pn 1) (nomark _)) (pss_cons (ps_set (i := 2) nd rfl (Or.inl rfl) (pe_op opMod (pe_callTy callInt (by rfl) B.int boot_int (pa_cons (pe_ix (ixItem hu) (pn 0) pe_str (fun _ _ => rfl)) pa_nil)) (pn 1)))
      (pss_cons (ps_asg (pe_op opDiv (pe_ix (ixItem hu) (pn 0) pe_str (fun _ _ => rfl)) (pn 1)) (pg_sub (pn 0) pe_str (setStore hu)))
      (pss_one (ps_ret (pn 2))))) pss_nil)
      (pss_cons (ps_asg (pe_op opMod (pe_callTy callInt (by rfl) B.int boot_int (pa_cons (pe_op opAdd (pe_op opMul (pe_ix (ixItem hu) (pn 0) pe_str (fun _ _ => rfl)) pe_int) pe_int) pa_nil)) pe_int) (pg_sub (pn 0) pe_str (setStore hu)))
      (pss_cons (ps_set (i := 3) nd rfl (Or.inl rfl) (pe_op opMod (pe_callTy callInt (by rfl) B.int boot_int (pa_cons (pe_op opPow (pe_ix (ixItem hu) (pn 0) pe_str (fun _ _ => rfl)) pe_int) pa_nil)) pe_int))
      (pss_one (ps_ret (pe_op opMod (pe_callTy callInt (by rfl) B.int boot_int (pa_cons (pe_op opDiv (pe_op opMod (pe_callTy callInt (by rfl) B.int boot_int (pa_cons (pe_op opPow (pn 3) pe_int) pa_nil)) pe_int) pe_int) pa_nil)) (pn 1))))))), ?_⟩
  exact body_ok (pin := [0, 1]) (bs := [true, true]) (k := 2) (mb := (mThen (mIf (mTest T.bool (mOp pGe true (mOp pItem true (mName 0) (mC (.str "digits"))) (mName 1))) (mThen (mSet 2 (mOp pMod true (mPrim pInt (mCons true (mOp pItem true (mName 0) (mC (.str "digits"))) mNil)) (mName 1)))
  (mThen (mSetI 0 (mPlName 0) (mC (.str "digits")) (mOp pDiv true (mOp pItem true (mName 0) (mC (.str "digits"))) (mName 1)))
  (mRet (mMove 2)))) .nx)
  (mThen (mSetI 0 (mPlName 0) (mC (.str "mixed")) (mOp pMod true (mPrim pInt (mCons true (mOp pAdd true (mOp pMul true (mOp pItem true (mName 0) (mC (.str "mixed"))) (mC (.int (40014)))) (mC (.int (1017)))) mNil)) (mC (.int (2147483563)))))
  (mThen (mSet 3 (mOp pMod true (mPrim pInt (mCons true (mOp pPow true (mOp pItem true (mName 0) (mC (.str "mixed"))) (mC (.int (2)))) mNil)) (mC (.int (2147483399)))))
  (mRet (mOp pMod true (mPrim pInt (mCons true (mOp pDiv true (mOp pMod true (mPrim pInt (mCons true (mOp pPow true (mName 3) (mC (.int (3)))) mNil)) (mC (.int (998244353)))) (mC (.int (7)))) mNil)) (mName 1))))))) (show SS ⟨c.base, [0, 1], L2.start ["_law_tape_here", "_law_many", "_law_found_here", "_law_once"] vs⟩ (fun cls d _ H => E cls d H) _ _ from (SS.seq (SS.ifs (SV.test (SV.op pr_ge (SV.op pr_item sv_name (sv_c fun _ _ _ => .str _)) sv_name)) (SS.seq (SS.set 2 (show 2 ∉ ([0, 1] : List Nat) by decide) (SV.op pr_mod (SV.cb pr_int (SA.cons (SV.op pr_item sv_name (sv_c fun _ _ _ => .str _)) SA.nil)) sv_name))
      (SS.seq (SS.setI (SPl.name 0) (sv_c fun _ _ _ => .str _) (SV.op pr_div (SV.op pr_item sv_name (sv_c fun _ _ _ => .str _)) sv_name))
      (SS.ret sv_move))) SS.next)
      (SS.seq (SS.setI (SPl.name 0) (sv_c fun _ _ _ => .str _) (SV.op pr_mod (SV.cb pr_int (SA.cons (SV.op pr_add (SV.op pr_mul (SV.op pr_item sv_name (sv_c fun _ _ _ => .str _)) (sv_c fun _ _ _ => .int _)) (sv_c fun _ _ _ => .int _)) SA.nil)) (sv_c fun _ _ _ => .int _)))
      (SS.seq (SS.set 3 (show 3 ∉ ([0, 1] : List Nat) by decide) (SV.op pr_mod (SV.cb pr_int (SA.cons (SV.op pr_pow (SV.op pr_item sv_name (sv_c fun _ _ _ => .str _)) (sv_c fun _ _ _ => .int _)) SA.nil)) (sv_c fun _ _ _ => .int _)))
      (SS.ret (SV.op pr_mod (SV.cb pr_int (SA.cons (SV.op pr_div (SV.op pr_mod (SV.cb pr_int (SA.cons (SV.op pr_pow sv_name (sv_c fun _ _ _ => .int _)) SA.nil)) (sv_c fun _ _ _ => .int _)) (sv_c fun _ _ _ => .int _)) SA.nil)) sv_name)))))) (by decide) rfl h
theorem ok_law_one_of {f0 : Addr} {fd0 : FuncData} (F : At K mg "_law_one_of" "_law_one_of" s_law_one_of ["_law_tape_here", "_law_items"] f0 fd0) (B : Bt mg) (D_law_pick : Def P w K mg base "_law_pick" ["_law_tape_here", "_law_many"] 1 (spV0 c 2 F_law_pick)) : Def P w K mg base "_law_one_of" ["_law_tape_here", "_law_items"] 2 (spV0 c 2 F_law_one_of) := by
  refine okD F sc_law_one_of (fun vs H Q E h => spV_len h) (fun cdv A outer s H vs Q E hr tk po h => ?_)
  have hu := hu_of hr
  have hu64 := hr.units
  have hc := (show (true : Bool) = true from rfl)
  have nd := sc_law_one_of.nd
  refine ⟨_, (pss_one (ps_ret (pe_ix (ixItem hu) (pn 1) (pe_fn D_law_pick (hr.mono (by decide)) tk (pa_cons (pn 0) (pa_cons (pe_callB callLen (by rfl) B.len bt_len (pa_cons (pn 1) pa_nil)) pa_nil))) (fun _ _ => rfl)))), ?_⟩
  exact body_ok (pin := [0, 1]) (bs := [true, true]) (k := 0) (mb := (mRet (mOp pItem false (mName 1) (mCallW [.io 0, .val] F_law_pick (mKNo 0 (mCons false (mPrim pLen (mCons true (mName 1) mNil)) mNil)))))) (show SS ⟨c.base, [0, 1], L2.start ["_law_tape_here", "_law_items"] vs⟩ (fun cls d _ H => E cls d H) _ _ from (SS.ret (SV.op pr_item sv_name (SV.callW ln_law_pick (SK.io 0 (SK.val (SV.cb pr_len (SA.cons sv_name SA.nil)) SK.nil)))))) (by decide) rfl h
theorem ok_law_any {f0 : Addr} {fd0 : FuncData} (F : At K mg "_law_any" "_law_any" s_law_any ["_law_tape_here"] f0 fd0) (B : Bt mg) (D_law_one_of : Def P w K mg base "_law_one_of" ["_law_tape_here", "_law_items"] 2 (spV0 c 2 F_law_one_of)) : Def P w K mg base "_law_any" ["_law_tape_here"] 3 (spV0 c 1 F_law_any) := by
  refine okD F sc_law_any (fun vs H Q E h => spV_len h) (fun cdv A outer s H vs Q E hr tk po h => ?_)
  have hu := hu_of hr
  have hu64 := hr.units
  have hc := (show (true : Bool) = true from rfl)
  have nd := sc_law_any.nd
  refine ⟨_, (pss_cons (ps_set (i := 1) nd rfl (Or.inl rfl) (li_lst (la_cons li_non (la_cons li_bl (la_cons li_bl (la_cons li_int (la_cons li_int (la_cons li_int (la_cons li_int (la_cons (li_num (pe_op opSub pe_int pe_int) (fun _ _ _ q => q)) (la_cons (li_num (pe_op opPow pe_int pe_int) (fun _ _ _ q => ⟨⟨by decide, by decide⟩, q⟩)) (la_cons li_str (la_cons li_str (la_cons li_str (la_cons li_str (la_cons li_str (la_cons li_str (la_cons li_str la_nil))))))))))))))))))
      (pss_cons (ps_set (i := 1) nd rfl (Or.inl rfl) (pe_op opAdd (pn 1) (li_lst (la_cons li_str (la_cons (li_tup la_nil) (la_cons (li_lst la_nil) (la_cons li_dict0 (la_cons (li_tup (la_cons li_int la_nil)) (la_cons (li_lst (la_cons li_int la_nil)) (la_cons (li_dict1 (kk := .inr "x") pe_str li_int) (la_cons (li_tup (la_cons li_int (la_cons li_str (la_cons li_str la_nil)))) (la_cons (li_tup (la_cons li_str la_nil)) (la_cons (li_lst (la_cons li_str la_nil)) (la_cons li_str la_nil))))))))))))))
      (pss_one (ps_ret (pe_fn D_law_one_of (hr.mono (by decide)) tk (pa_cons (pn 0) (pa_cons (pn 1) pa_nil))))))), ?_⟩
  exact body_ok (pin := [0]) (bs := [true]) (k := 1) (mb := (mThen (mAsg (mC (enc (.list [.none, (.bool true), (.bool false), (.int (0)), (.int (1)), (.int (2)), (.int (7)), (.int (0 - 1)), (.int (10 ^ ((40 : Int)).toNat)), (.str ""), (.str "a"), (.str "x"), (.str "hold"), (.str "locks"), (.str "Hold"), (.str "change ")]))) (gmName 1))
  (mThen (mAsg (mOp pAdd true (mName 1) (mC (enc (.list [(.str "abcdefg"), (.tuple []), (.list []), (.dict []), (.tuple [(.int (1))]), (.list [(.int (1))]), (.dict [(keyD (.inr "x"), (.int (1)))]), (.tuple [(.int (1)), (.str "locks"), (.str "hold")]), (.tuple [(.str "hold")]), (.list [(.str "hold")]), (.str "1")])))) (gmName 1))
  (mRet (mCallW [.io 0, .val] F_law_one_of (mKNo 0 (mCons false (mName 1) mNil))))))) (show SS ⟨c.base, [0], L2.start ["_law_tape_here", "_law_some"] vs⟩ (fun cls d _ H => E cls d H) _ _ from (SS.seq (SS.asg sv_lit (SG.name 1 (show 1 ∉ ([0] : List Nat) by decide)))
      (SS.seq (SS.asg (SV.op pr_add sv_name sv_lit) (SG.name 1 (show 1 ∉ ([0] : List Nat) by decide)))
      (SS.ret (SV.callW ln_law_one_of (SK.io 0 (SK.val sv_name SK.nil))))))) (by decide) rfl h
theorem ok_law_deeds_text {f0 : Addr} {fd0 : FuncData} (F : At K mg "_law_deeds_text" "_law_deeds_text" s_law_deeds_text ["_law_history"] f0 fd0) (B : Bt mg)  : Def P w K mg base "_law_deeds_text" ["_law_history"] 1 (spV0 c 1 F_law_deeds_text) := by
  refine okD F sc_law_deeds_text (fun vs H Q E h => spV_len h) (fun cdv A outer s H vs Q E hr tk po h => ?_)
  have hu := hu_of hr
  have hu64 := hr.units
  have hc := (show (true : Bool) = true from rfl)
  have nd := sc_law_deeds_text.nd
  refine ⟨_, (pss_one (ps_ret (pe_join pe_str (pe_lc (te := tM1 (rJoinK K) (tC (V.str " ")) (tLc (iAny K (tV 2)) (gName 1) tYes (tCB rStr (tCons (tV 1) tNil)) [1])) (own := [("_law_deed", 2)]) hc nd (pi_any (pn 0)) (blkOk_by (own := [("_law_deed", 2)]) (N := ["_law_history", "_law_part", "_law_deed"]) (sc := defScope s_law_deeds_text) (by decide +kernel)) (fun _ _ _ _ _ => (pg_name (i := 2) nd rfl (Or.inl rfl))) (fun _ _ _ _ _ => pts_nil) (fun sB HB CB clB fpB => ?inner))))), ?_⟩
  case inner => exact (pe_join pe_str (pe_lc (X := Cx.blk (cxOf (L2.CX P w) P w K mg base ["_law_history", "_law_part", "_law_deed"] "_law_deeds_text" (defScope s_law_deeds_text) f0 cdv A outer s H E) sB HB scO_law_deeds_text (compEnvC scO_law_deeds_text clB CB (Cx.env (cxOf (L2.CX P w) P w K mg base ["_law_history", "_law_part", "_law_deed"] "_law_deeds_text" (defScope s_law_deeds_text) f0 cdv A outer s H E))) fpB) (scope := scI_law_deeds_text) (own := [("_law_part", 1)]) hc nd (pi_any (pn 2)) (blkOk_by (own := [("_law_part", 1)]) (N := ["_law_history", "_law_part", "_law_deed"]) (sc := relS scO_law_deeds_text (defScope s_law_deeds_text)) (by decide +kernel)) (fun _ _ _ _ _ => (pg_name (i := 1) nd rfl (Or.inl rfl))) (fun _ _ _ _ _ => pts_nil) (fun _ _ _ _ _ => (pe_callTy call_strX (by rfl) B.str PyProof.Rows.boot_str (pa_cons (pn 1) pa_nil)))))
  exact body_ok (pin := [0]) (bs := [true]) (k := 2) (mb := (mRet (mM1 pJoin (mC (.str "
")) (mLc [2] (mItV (mName 0)) (gmName 2) (mPure true) (mM1 pJoin (mC (.str " ")) (mLc [1] (mItV (mName 2)) (gmName 1) (mPure true) (mPrim pStr (mCons true (mName 1) mNil)))))))) (show SS ⟨c.base, [0], L2.start ["_law_history", "_law_part", "_law_deed"] vs⟩ (fun cls d _ H => E cls d H) _ _ from (SS.ret (SV.met1 pr_join (sv_c fun _ _ _ => .str _) (SV.lc (vs := [2]) (SI.any sv_name) (fun _ _ => (SG.name 2 (but_not (by decide)))) st_yes (SV.met1 pr_join (sv_c fun _ _ _ => .str _) (SV.lc (vs := [1]) (SI.any sv_name) (fun _ _ => (SG.name 1 (but_not (by decide)))) st_yes (SV.cb pr_str (SA.cons sv_name SA.nil)))))))) (by decide) rfl h
theorem ok_law_bent {f0 : Addr} {fd0 : FuncData} (F : At K mg "_law_bent" "_law_bent" s_law_bent ["_law_tape_here", "_law_text", "_law_odd"] f0 fd0) (B : Bt mg) (D_law_pick : Def P w K mg base "_law_pick" ["_law_tape_here", "_law_many"] 1 (spV0 c 2 F_law_pick)) (D_law_one_of : Def P w K mg base "_law_one_of" ["_law_tape_here", "_law_items"] 2 (spV0 c 2 F_law_one_of)) : Def P w K mg base "_law_bent" ["_law_tape_here", "_law_text", "_law_odd"] 3 (spV0 c 3 F_law_bent) := by
  refine okD F sc_law_bent (fun vs H Q E h => spV_len h) (fun cdv A outer s H vs Q E hr tk po h => ?_)
  have hu := hu_of hr
  have hu64 := hr.units
  have hc := (show (true : Bool) = true from rfl)
  have nd := sc_law_bent.nd
  refine ⟨_, (pss_cons (ps_set (i := 3) nd rfl (Or.inl rfl) (pe_fn D_law_pick (hr.mono (by decide)) tk (pa_cons (pn 0) (pa_cons pe_int pa_nil))))
      (pss_cons (ps_if (pt_cmpR (opEqT hu64) (pn 3) pe_int (nomark _)) (pss_cons (ps_set (i := 4) nd rfl (Or.inl rfl) (pe_fn D_law_pick (hr.mono (by decide)) tk (pa_cons (pn 0) (pa_cons (pe_op opAdd (pe_callB callLen (by rfl) B.len bt_len (pa_cons (pn 1) pa_nil)) pe_int) pa_nil))))
      (pss_one (ps_ret (pe_op opAdd (pe_op opAdd (pe_slice slSlice (pn 1) po_none (po_some (pn 4))) (pe_upper (pe_slice slSlice (pn 1) (po_some (pn 4)) (po_some (pe_op opAdd (pn 4) pe_int))))) (pe_slice slSlice (pn 1) (po_some (pe_op opAdd (pn 4) pe_int)) po_none))))) pss_nil)
      (pss_cons (ps_if (pt_cmpR opLt (pn 3) pe_int (nomark _)) (pss_cons (ps_set (i := 5) nd rfl (Or.inl rfl) (pe_split (pn 1) pe_str))
      (pss_cons (ps_set (i := 4) nd rfl (Or.inl rfl) (pe_fn D_law_pick (hr.mono (by decide)) tk (pa_cons (pn 0) (pa_cons (pe_callB callLen (by rfl) B.len bt_len (pa_cons (pn 5) pa_nil)) pa_nil))))
      (pss_cons (ps_set (i := 6) nd rfl (Or.inl rfl) (pe_lst (pa_cons (pe_op opAdd (pe_slice slSlice (pn 5) po_none (po_some (pn 4))) (pe_slice slSlice (pn 5) (po_some (pe_op opAdd (pn 4) pe_int)) po_none)) (pa_cons (pe_op opAdd (pe_op opAdd (pe_slice slSlice (pn 5) po_none (po_some (pn 4))) (pe_slice slSlice (pn 5) (po_some (pn 4)) (po_some (pe_op opAdd (pn 4) pe_int)))) (pe_slice slSlice (pn 5) (po_some (pn 4)) po_none)) (pa_cons (pe_op opAdd (pe_op opAdd (pe_slice slSlice (pn 5) po_none (po_some (pn 4))) (li_lst (la_cons li_str la_nil))) (pe_slice slSlice (pn 5) (po_some (pn 4)) po_none)) pa_nil)))))
      (pss_cons (ps_set (i := 6) nd rfl (Or.inl rfl) (pe_op opAdd (pn 6) (pe_lst (pa_cons (pe_op opAdd (pn 5) (li_lst (la_cons li_str la_nil))) (pa_cons (pe_op opAdd (pe_op opAdd (pe_slice slSlice (pn 5) po_none (po_some (pn 4))) (pe_rev (pe_slice slSlice (pn 5) (po_some (pn 4)) (po_some (pe_op opAdd (pn 4) pe_int))))) (pe_slice slSlice (pn 5) (po_some (pe_op opAdd (pn 4) pe_int)) po_none)) pa_nil)))))
      (pss_one (ps_ret (pe_join pe_str (pe_fn D_law_one_of (hr.mono (by decide)) tk (pa_cons (pn 0) (pa_cons (pn 6) pa_nil)))))))))) pss_nil)
      (pss_cons (ps_if (pt_cmpR opLt (pn 3) pe_int (nomark _)) (pss_cons (ps_set (i := 7) nd rfl (Or.inl rfl) (pe_split (pn 1) pe_str))
      (pss_cons (ps_par (i := 4) (j := 8) (by rfl) nd rfl rfl (by decide) rfl rfl (pa_cons (pe_fn D_law_pick (hr.mono (by decide)) tk (pa_cons (pn 0) (pa_cons (pe_callB callLen (by rfl) B.len bt_len (pa_cons (pn 7) pa_nil)) pa_nil))) (pa_cons (pe_fn D_law_one_of (hr.mono (by decide)) tk (pa_cons (pn 0) (pa_cons (pn 2) pa_nil))) pa_nil)) (by rfl))
      (pss_cons (ps_set (i := 6) nd rfl (Or.inl rfl) (pe_lst (pa_cons (pe_op opAdd (pe_slice slSlice (pn 7) po_none (po_some (pn 4))) (pe_slice slSlice (pn 7) (po_some (pe_op opAdd (pn 4) pe_int)) po_none)) (pa_cons (pe_op opAdd (pe_op opAdd (pe_slice slSlice (pn 7) po_none (po_some (pn 4))) (pe_lst (pa_cons (pn 8) pa_nil))) (pe_slice slSlice (pn 7) (po_some (pn 4)) po_none)) (pa_cons (pe_op opAdd (pe_op opAdd (pe_slice slSlice (pn 7) po_none (po_some (pn 4))) (pe_lst (pa_cons (pn 8) pa_nil))) (pe_slice slSlice (pn 7) (po_some (pe_op opAdd (pn 4) pe_int)) po_none)) pa_nil)))))
      (pss_one (ps_ret (pe_join pe_str (pe_fn D_law_one_of (hr.mono (by decide)) tk (pa_cons (pn 0) (pa_cons (pn 6) pa_nil))))))))) pss_nil)
      (pss_cons (ps_set (i := 9) nd rfl (Or.inl rfl) (li_lst (la_cons li_str (la_cons li_str (la_cons li_str (la_cons li_str (la_cons li_str (la_cons li_str (la_cons li_str (la_cons li_str (la_cons li_str (la_cons li_str (la_cons li_str la_nil)))))))))))))
      (pss_cons (ps_par (i := 4) (j := 10) (by rfl) nd rfl rfl (by decide) rfl rfl (pa_cons (pe_fn D_law_pick (hr.mono (by decide)) tk (pa_cons (pn 0) (pa_cons (pe_op opAdd (pe_callB callLen (by rfl) B.len bt_len (pa_cons (pn 1) pa_nil)) pe_int) pa_nil))) (pa_cons (pe_fn D_law_one_of (hr.mono (by decide)) tk (pa_cons (pn 0) (pa_cons (pn 9) pa_nil))) pa_nil)) (by rfl))
      (pss_one (ps_ret (pe_op opAdd (pe_op opAdd (pe_slice slSlice (pn 1) po_none (po_some (pn 4))) (pn 10)) (pe_slice slSlice (pn 1) (po_some (pe_op opAdd (pn 4) (pe_fn D_law_pick (hr.mono (by decide)) tk (pa_cons (pn 0) (pa_cons pe_int pa_nil))))) po_none)))))))))), ?_⟩
  exact body_ok (pin := [0, 1, 2]) (bs := [true, true, true]) (k := 8) (mb := (mThen (mSet 3 (mCallW [.io 0, .val] F_law_pick (mKNo 0 (mCons false (mC (.int (7))) mNil))))
  (mThen (mIf (mTest T.bool (mOp pEq2 true (mName 3) (mC (.int (6))))) (mThen (mSet 4 (mCallW [.io 0, .val] F_law_pick (mKNo 0 (mCons false (mFz (mOp pAdd true (mPrim pLen (mCons true (mName 1) mNil)) (mC (.int (1))))) mNil))))
  (mRet (mOp pAdd true (mOp pAdd true (mSlice (mName 1) (mPure none) (mPart (mName 4))) (mM0 pUpper (mSlice (mName 1) (mPart (mName 4)) (mPart (mOp pAdd true (mName 4) (mC (.int (1)))))))) (mSlice (mName 1) (mPart (mOp pAdd true (mName 4) (mC (.int (1))))) (mPure none))))) .nx)
  (mThen (mIf (mTest T.bool (mOp pLt true (mName 3) (mC (.int (2))))) (mThen (mSet 5 (mM1 pSplit (mName 1) (mC (.str "
"))))
  (mThen (mSet 4 (mCallW [.io 0, .val] F_law_pick (mKNo 0 (mCons false (mPrim pLen (mCons true (mName 5) mNil)) mNil))))
  (mThen (mAsg (mLst (mCons true (mOp pAdd true (mSlice (mName 5) (mPure none) (mPart (mName 4))) (mSlice (mName 5) (mPart (mOp pAdd true (mName 4) (mC (.int (1))))) (mPure none))) (mCons true (mOp pAdd true (mOp pAdd true (mSlice (mName 5) (mPure none) (mPart (mName 4))) (mSlice (mName 5) (mPart (mName 4)) (mPart (mOp pAdd true (mName 4) (mC (.int (1))))))) (mSlice (mName 5) (mPart (mName 4)) (mPure none))) (mCons true (mOp pAdd true (mOp pAdd true (mSlice (mName 5) (mPure none) (mPart (mName 4))) (mC (enc (.list [(.str "")])))) (mSlice (mName 5) (mPart (mName 4)) (mPure none))) mNil)))) (gmName 6))
  (mThen (mAsg (mOp pAdd true (mName 6) (mLst (mCons true (mFz (mOp pAdd true (mName 5) (mC (enc (.list [(.str "")]))))) (mCons true (mFz (mOp pAdd true (mOp pAdd true (mSlice (mName 5) (mPure none) (mPart (mName 4))) (mPrim pRev (mCons true (mSlice (mName 5) (mPart (mName 4)) (mPart (mOp pAdd true (mName 4) (mC (.int (2)))))) mNil))) (mSlice (mName 5) (mPart (mOp pAdd true (mName 4) (mC (.int (2))))) (mPure none)))) mNil)))) (gmName 6))
  (mRet (mM1 pJoin (mC (.str "
")) (mCallW [.io 0, .val] F_law_one_of (mKNo 0 (mCons false (mName 6) mNil))))))))) .nx)
  (mThen (mIf (mTest T.bool (mOp pLt true (mName 3) (mC (.int (4))))) (mThen (mSet 7 (mM1 pSplit (mName 1) (mC (.str " "))))
  (mThen (mPar 4 8 (mCons false (mCallW [.io 0, .val] F_law_pick (mKNo 0 (mCons false (mPrim pLen (mCons true (mName 7) mNil)) mNil))) (mCons true (mCallW [.io 0, .val] F_law_one_of (mKNo 0 (mCons false (mName 2) mNil))) mNil)))
  (mThen (mAsg (mLst (mCons true (mOp pAdd true (mSlice (mName 7) (mPure none) (mPart (mName 4))) (mSlice (mName 7) (mPart (mOp pAdd true (mName 4) (mC (.int (1))))) (mPure none))) (mCons true (mOp pAdd true (mOp pAdd true (mSlice (mName 7) (mPure none) (mPart (mName 4))) (mLst (mCons true (mName 8) mNil))) (mSlice (mName 7) (mPart (mName 4)) (mPure none))) (mCons true (mOp pAdd true (mOp pAdd true (mSlice (mName 7) (mPure none) (mPart (mName 4))) (mLst (mCons true (mName 8) mNil))) (mSlice (mName 7) (mPart (mOp pAdd true (mName 4) (mC (.int (1))))) (mPure none))) mNil)))) (gmName 6))
  (mRet (mM1 pJoin (mC (.str " ")) (mCallW [.io 0, .val] F_law_one_of (mKNo 0 (mCons false (mName 6) mNil)))))))) .nx)
  (mThen (mAsg (mC (enc (.list [(.str ""), (.str " "), (.str "0"), (.str "-"), (.str "
"), (.str ","), (.str "a"), (.str "Z"), (.str "9"), (.str "_"), (.str "	")]))) (gmName 9))
  (mThen (mPar 4 10 (mCons false (mCallW [.io 0, .val] F_law_pick (mKNo 0 (mCons false (mFz (mOp pAdd true (mPrim pLen (mCons true (mName 1) mNil)) (mC (.int (1))))) mNil))) (mCons true (mCallW [.io 0, .val] F_law_one_of (mKNo 0 (mCons false (mName 9) mNil))) mNil)))
  (mRet (mOp pAdd false (mOp pAdd true (mSlice (mName 1) (mPure none) (mPart (mName 4))) (mName 10)) (mOp pSlFr false (mName 1) (mOp pAdd false (mName 4) (mCallW [.io 0, .val] F_law_pick (mKNo 0 (mCons false (mC (.int (2))) mNil)))))))))))))) (show SS ⟨c.base, [0, 1, 2], L2.start ["_law_tape_here", "_law_text", "_law_odd", "_law_road", "_law_at", "_law_lines", "_law_some", "_law_words", "_law_one", "_law_signs", "_law_sign"] vs⟩ (fun cls d _ H => E cls d H) _ _ from (SS.seq (SS.set 3 (show 3 ∉ ([0, 1, 2] : List Nat) by decide) (SV.callW ln_law_pick (SK.io 0 (SK.val (sv_c fun _ _ _ => .int _) SK.nil))))
      (SS.seq (SS.ifs (SV.test (SV.op pr_eq2 sv_name (sv_c fun _ _ _ => .int _))) (SS.seq (SS.set 4 (show 4 ∉ ([0, 1, 2] : List Nat) by decide) (SV.callW ln_law_pick (SK.io 0 (SK.val (SV.fz (SV.op pr_add (SV.cb pr_len (SA.cons sv_name SA.nil)) (sv_c fun _ _ _ => .int _))) SK.nil))))
      (SS.ret (SV.op pr_add (SV.op pr_add (SV.slice sv_name SO.none (SO.some sv_name)) (SV.met0 pr_upper (SV.slice sv_name (SO.some sv_name) (SO.some (SV.op pr_add sv_name (sv_c fun _ _ _ => .int _)))))) (SV.slice sv_name (SO.some (SV.op pr_add sv_name (sv_c fun _ _ _ => .int _))) SO.none)))) SS.next)
      (SS.seq (SS.ifs (SV.test (SV.op pr_lt sv_name (sv_c fun _ _ _ => .int _))) (SS.seq (SS.set 5 (show 5 ∉ ([0, 1, 2] : List Nat) by decide) (SV.met1 pr_split sv_name (sv_c fun _ _ _ => .str _)))
      (SS.seq (SS.set 4 (show 4 ∉ ([0, 1, 2] : List Nat) by decide) (SV.callW ln_law_pick (SK.io 0 (SK.val (SV.cb pr_len (SA.cons sv_name SA.nil)) SK.nil))))
      (SS.seq (SS.asg (SV.lst (SA.cons (SV.op pr_add (SV.slice sv_name SO.none (SO.some sv_name)) (SV.slice sv_name (SO.some (SV.op pr_add sv_name (sv_c fun _ _ _ => .int _))) SO.none)) (SA.cons (SV.op pr_add (SV.op pr_add (SV.slice sv_name SO.none (SO.some sv_name)) (SV.slice sv_name (SO.some sv_name) (SO.some (SV.op pr_add sv_name (sv_c fun _ _ _ => .int _))))) (SV.slice sv_name (SO.some sv_name) SO.none)) (SA.cons (SV.op pr_add (SV.op pr_add (SV.slice sv_name SO.none (SO.some sv_name)) sv_lit) (SV.slice sv_name (SO.some sv_name) SO.none)) SA.nil)))) (SG.name 6 (show 6 ∉ ([0, 1, 2] : List Nat) by decide)))
      (SS.seq (SS.asg (SV.op pr_add sv_name (SV.lst (SA.cons (SV.fz (SV.op pr_add sv_name sv_lit)) (SA.cons (SV.fz (SV.op pr_add (SV.op pr_add (SV.slice sv_name SO.none (SO.some sv_name)) (SV.un pr_rev (SV.slice sv_name (SO.some sv_name) (SO.some (SV.op pr_add sv_name (sv_c fun _ _ _ => .int _)))))) (SV.slice sv_name (SO.some (SV.op pr_add sv_name (sv_c fun _ _ _ => .int _))) SO.none))) SA.nil)))) (SG.name 6 (show 6 ∉ ([0, 1, 2] : List Nat) by decide)))
      (SS.ret (SV.met1 pr_join (sv_c fun _ _ _ => .str _) (SV.callW ln_law_one_of (SK.io 0 (SK.val sv_name SK.nil))))))))) SS.next)
      (SS.seq (SS.ifs (SV.test (SV.op pr_lt sv_name (sv_c fun _ _ _ => .int _))) (SS.seq (SS.set 7 (show 7 ∉ ([0, 1, 2] : List Nat) by decide) (SV.met1 pr_split sv_name (sv_c fun _ _ _ => .str _)))
      (SS.seq (SS.par (show 4 ∉ ([0, 1, 2] : List Nat) by decide) (show 8 ∉ ([0, 1, 2] : List Nat) by decide) (SA.cons (SV.callW ln_law_pick (SK.io 0 (SK.val (SV.cb pr_len (SA.cons sv_name SA.nil)) SK.nil))) (SA.cons (SV.callW ln_law_one_of (SK.io 0 (SK.val sv_name SK.nil))) SA.nil)))
      (SS.seq (SS.asg (SV.lst (SA.cons (SV.op pr_add (SV.slice sv_name SO.none (SO.some sv_name)) (SV.slice sv_name (SO.some (SV.op pr_add sv_name (sv_c fun _ _ _ => .int _))) SO.none)) (SA.cons (SV.op pr_add (SV.op pr_add (SV.slice sv_name SO.none (SO.some sv_name)) (SV.lst (SA.cons sv_name SA.nil))) (SV.slice sv_name (SO.some sv_name) SO.none)) (SA.cons (SV.op pr_add (SV.op pr_add (SV.slice sv_name SO.none (SO.some sv_name)) (SV.lst (SA.cons sv_name SA.nil))) (SV.slice sv_name (SO.some (SV.op pr_add sv_name (sv_c fun _ _ _ => .int _))) SO.none)) SA.nil)))) (SG.name 6 (show 6 ∉ ([0, 1, 2] : List Nat) by decide)))
      (SS.ret (SV.met1 pr_join (sv_c fun _ _ _ => .str _) (SV.callW ln_law_one_of (SK.io 0 (SK.val sv_name SK.nil)))))))) SS.next)
      (SS.seq (SS.asg sv_lit (SG.name 9 (show 9 ∉ ([0, 1, 2] : List Nat) by decide)))
      (SS.seq (SS.par (show 4 ∉ ([0, 1, 2] : List Nat) by decide) (show 10 ∉ ([0, 1, 2] : List Nat) by decide) (SA.cons (SV.callW ln_law_pick (SK.io 0 (SK.val (SV.fz (SV.op pr_add (SV.cb pr_len (SA.cons sv_name SA.nil)) (sv_c fun _ _ _ => .int _))) SK.nil))) (SA.cons (SV.callW ln_law_one_of (SK.io 0 (SK.val sv_name SK.nil))) SA.nil)))
      (SS.ret (SV.op pr_add (SV.op pr_add (SV.slice sv_name SO.none (SO.some sv_name)) sv_name) (SV.slFr sv_name (SV.op pr_add sv_name (SV.callW ln_law_pick (SK.io 0 (SK.val (sv_c fun _ _ _ => .int _) SK.nil)))))))))))))) (by decide) rfl h
theorem ok_law_nym {f0 : Addr} {fd0 : FuncData} (F : At K mg "_law_nym" "_law_nym" s_law_nym ["_law_tape_here"] f0 fd0) (B : Bt mg) (D_law_one_of : Def P w K mg base "_law_one_of" ["_law_tape_here", "_law_items"] 2 (spV0 c 2 F_law_one_of)) (D_law_pick : Def P w K mg base "_law_pick" ["_law_tape_here", "_law_many"] 1 (spV0 c 2 F_law_pick)) : Def P w K mg base "_law_nym" ["_law_tape_here"] 3 (spV0 c 1 F_law_nym) := by
  refine okD F sc_law_nym (fun vs H Q E h => spV_len h) (fun cdv A outer s H vs Q E hr tk po h => ?_)
  have hu := hu_of hr
  have hu64 := hr.units
  have hc := (show (true : Bool) = true from rfl)
  have nd := sc_law_nym.nd
  refine ⟨_, (pss_cons (ps_set (i := 1) nd rfl (Or.inr rfl) pe_str)
      (pss_one (ps_ret (pe_join pe_str (pe_lc (own := [("_law_k", 2)]) hc nd (pi_range1 (by rfl) B.range (pa_cons (pe_op opAdd pe_int (pe_fn D_law_pick (hr.mono (by decide)) tk (pa_cons (pn 0) (pa_cons pe_int pa_nil)))) pa_nil)) (blkOk_by (own := [("_law_k", 2)]) (N := ["_law_tape_here", "_law_letters", "_law_k"]) (sc := defScope s_law_nym) (by decide +kernel)) (fun _ _ _ _ _ => (pg_name (i := 2) nd rfl (Or.inl rfl))) (fun _ _ _ _ _ => pts_nil) (fun _ _ _ _ _ => (pe_fn D_law_one_of (hr.mono (by decide)) tkF (pa_cons (pn 0) (pa_cons (pn 1) pa_nil))))))))), ?_⟩
  exact body_ok (pin := [0]) (bs := [true]) (k := 2) (mb := (mThen (mAsg (mC (.str "abcdefghijklmnopqrstuvwxyz")) (gmName 1))
  (mRet (mM1 pJoin (mC (.str "")) (mLc [2] (mRange1 (mOp pAdd false (mC (.int (1))) (mCallW [.io 0, .val] F_law_pick (mKNo 0 (mCons false (mC (.int (6))) mNil))))) (gmName 2) (mPure true) (mCallW [.io 0, .val] F_law_one_of (mKNo 0 (mCons false (mName 1) mNil)))))))) (show SS ⟨c.base, [0], L2.start ["_law_tape_here", "_law_letters", "_law_k"] vs⟩ (fun cls d _ H => E cls d H) _ _ from (SS.seq (SS.asg (sv_c fun _ _ _ => .str _) (SG.name 1 (show 1 ∉ ([0] : List Nat) by decide)))
      (SS.ret (SV.met1 pr_join (sv_c fun _ _ _ => .str _) (SV.lc (vs := [2]) (SI.range1 (SV.op pr_add (sv_c fun _ _ _ => .int _) (SV.callW ln_law_pick (SK.io 0 (SK.val (sv_c fun _ _ _ => .int _) SK.nil))))) (fun _ _ => (SG.name 2 (but_not (by decide)))) st_yes (SV.callW ln_law_one_of (SK.io 0 (SK.val sv_name SK.nil)))))))) (by decide) rfl h
theorem ok_law_some_deed {f0 : Addr} {fd0 : FuncData} (F : At K mg "_law_some_deed" "_law_some_deed" s_law_some_deed ["_law_tape_here"] f0 fd0) (B : Bt mg) (D_law_one_of : Def P w K mg base "_law_one_of" ["_law_tape_here", "_law_items"] 2 (spV0 c 2 F_law_one_of)) (D_law_nym : Def P w K mg base "_law_nym" ["_law_tape_here"] 3 (spV0 c 1 F_law_nym)) : Def P w K mg base "_law_some_deed" ["_law_tape_here"] 4 (spV0 c 1 F_law_some_deed) := by
  refine okD F sc_law_some_deed (fun vs H Q E h => spV_len h) (fun cdv A outer s H vs Q E hr tk po h => ?_)
  have hu := hu_of hr
  have hu64 := hr.units
  have hc := (show (true : Bool) = true from rfl)
  have nd := sc_law_some_deed.nd
  refine ⟨_, (pss_cons (ps_set (i := 1) nd rfl (Or.inl rfl) (pe_fn D_law_one_of (hr.mono (by decide)) tk (pa_cons (pn 0) (pa_cons (li_lst (la_cons li_str (la_cons li_str (la_cons li_str (la_cons li_str (la_cons li_str (la_cons li_str (la_cons li_str (la_cons li_str (la_cons li_str la_nil)))))))))) pa_nil))))
      (pss_cons (ps_set (i := 1) nd rfl (Or.inl rfl) (pe_fn D_law_one_of (hr.mono (by decide)) tk (pa_cons (pn 0) (pa_cons (pe_lst (pa_cons (pn 1) (pa_cons pe_str (pa_cons pe_str (pa_cons pe_str (pa_cons pe_str (pa_cons pe_str pa_nil))))))) pa_nil))))
      (pss_cons (ps_if (pt_cmpR (opIn hu) (pn 1) (li_tup (la_cons li_str (la_cons li_str (la_cons li_str la_nil)))) rfl) (pss_one (ps_ret (pe_tup (pa_cons (pn 1) pa_nil)))) pss_nil)
      (pss_cons (ps_if (pt_cmpR (opEqT hu64) (pn 1) pe_str (nomark _)) (pss_one (ps_ret (pe_tup (pa_cons (pn 1) (pa_cons (pe_fn D_law_one_of (hr.mono (by decide)) tk (pa_cons (pn 0) (pa_cons (li_lst (la_cons li_int (la_cons li_int (la_cons li_int (la_cons li_int (la_cons li_int la_nil)))))) pa_nil))) pa_nil))))) pss_nil)
      (pss_cons (ps_set (i := 2) nd rfl (Or.inl rfl) (pe_fn D_law_one_of (hr.mono (by decide)) tk (pa_cons (pn 0) (pa_cons (li_lst (la_cons li_int (la_cons li_int (la_cons li_int (la_cons li_int (la_cons li_int (la_cons (li_num (pe_op opPow pe_int pe_int) (fun _ _ _ q => ⟨⟨by decide, by decide⟩, q⟩)) la_nil))))))) pa_nil))))
      (pss_cons (ps_if (pt_cmpR (opNotIn hu) (pn 1) (li_tup (la_cons li_str (la_cons li_str la_nil))) rfl) (pss_one (ps_ret (pe_tup (pa_cons (pn 1) (pa_cons (pn 2) pa_nil))))) pss_nil)
      (pss_cons (ps_set (i := 3) nd rfl (Or.inl rfl) (pe_fn D_law_one_of (hr.mono (by decide)) tk (pa_cons (pn 0) (pa_cons (pe_op opAdd (li_lst (la_cons li_str (la_cons li_str (la_cons li_str (la_cons li_str (la_cons li_str (la_cons li_str la_nil))))))) (pe_op opMul (pe_lst (pa_cons (pe_fn D_law_nym (hr.mono (by decide)) tk (pa_cons (pn 0) pa_nil)) pa_nil)) pe_int)) pa_nil))))
      (pss_cons (ps_if (pt_cmpR (opEqT hu64) (pn 1) pe_str (nomark _)) (pss_one (ps_ret (pe_tup (pa_cons (pn 1) (pa_cons (pn 2) (pa_cons (pn 3) (pa_cons (pe_fn D_law_one_of (hr.mono (by decide)) tk (pa_cons (pn 0) (pa_cons (li_lst (la_cons li_str (la_cons li_str (la_cons li_str (la_cons li_str la_nil))))) pa_nil))) pa_nil))))))) pss_nil)
      (pss_cons (ps_set (i := 4) nd rfl (Or.inl rfl) (pe_fn D_law_one_of (hr.mono (by decide)) tk (pa_cons (pn 0) (pa_cons (pe_lst (pa_cons pe_int (pa_cons pe_int (pa_cons (pe_op opSub pe_int pe_int) (pa_cons (pe_op opSub pe_int pe_int) (pa_cons pe_int (pa_cons (pe_op opSub (pe_op opPow pe_int pe_int) pe_int) (pa_cons (pe_op opSub pe_int (pe_op opPow pe_int pe_int)) pa_nil)))))))) pa_nil))))
      (pss_one (ps_ret (pe_tup (pa_cons (pn 1) (pa_cons (pn 2) (pa_cons (pn 3) (pa_cons (pe_fn D_law_one_of (hr.mono (by decide)) tk (pa_cons (pn 0) (pa_cons (li_lst (la_cons li_str (la_cons li_str la_nil))) pa_nil))) (pa_cons (pn 4) pa_nil))))))))))))))))), ?_⟩
  exact body_ok (pin := [0]) (bs := [true]) (k := 4) (mb := (mThen (mSet 1 (mCallW [.io 0, .val] F_law_one_of (mKNo 0 (mCons false (mC (enc (.list [(.str "begin"), (.str "crash"), (.str "clean"), (.str "horizon"), (.str "save"), (.str "release"), (.str "back"), (.str "commit"), (.str "abort")]))) mNil))))
  (mThen (mSet 1 (mCallW [.io 0, .val] F_law_one_of (mKNo 0 (mCons false (mFz (mLst (mCons true (mName 1) (mCons true (mC (.str "prepare")) (mCons true (mC (.str "lock")) (mCons true (mC (.str "lock")) (mCons true (mC (.str "change")) (mCons true (mC (.str "change")) mNil)))))))) mNil))))
  (mThen (mIf (mTest T.bool (mOp (pMem false) true (mName 1) (mC (enc (.tuple [(.str "begin"), (.str "crash"), (.str "clean")]))))) (mRet (mSeq true (mCons true (mName 1) mNil))) .nx)
  (mThen (mIf (mTest T.bool (mOp pEq2 true (mName 1) (mC (.str "horizon")))) (mRet (mSeq true (mCons false (mName 1) (mCons true (mCallW [.io 0, .val] F_law_one_of (mKNo 0 (mCons false (mC (enc (.list [(.int (0)), (.int (1)), (.int (10)), (.int (59)), (.int (60))]))) mNil))) mNil)))) .nx)
  (mThen (mSet 2 (mCallW [.io 0, .val] F_law_one_of (mKNo 0 (mCons false (mC (enc (.list [(.int (1)), (.int (2)), (.int (9)), (.int (10)), (.int (101)), (.int (10 ^ ((6 : Int)).toNat))]))) mNil))))
  (mThen (mIf (mTest T.bool (mOp (pMem true) true (mName 1) (mC (enc (.tuple [(.str "lock"), (.str "change")]))))) (mRet (mSeq true (mCons true (mName 1) (mCons true (mName 2) mNil)))) .nx)
  (mThen (mSet 3 (mCallW [.io 0, .val] F_law_one_of (mKNo 0 (mCons false (mFz (mOp pAdd false (mC (enc (.list [(.str "x"), (.str "y"), (.str "ab"), (.str "lock"), (.str "set"), (.str "abcdef")]))) (mOp pMul true (mLst (mCons true (mCallW [.io 0] F_law_nym (mKNo 0 mNil)) mNil)) (mC (.int (3)))))) mNil))))
  (mThen (mIf (mTest T.bool (mOp pEq2 true (mName 1) (mC (.str "lock")))) (mRet (mSeq true (mCons false (mName 1) (mCons false (mName 2) (mCons false (mName 3) (mCons true (mCallW [.io 0, .val] F_law_one_of (mKNo 0 (mCons false (mC (enc (.list [(.str "hold"), (.str "keep"), (.str "change"), (.str "replace")]))) mNil))) mNil)))))) .nx)
  (mThen (mSet 4 (mCallW [.io 0, .val] F_law_one_of (mKNo 0 (mCons false (mFz (mLst (mCons true (mC (.int (0))) (mCons true (mC (.int (7))) (mCons true (mOp pSub true (mC (.int (0))) (mC (.int (1)))) (mCons true (mOp pSub true (mC (.int (0))) (mC (.int (10)))) (mCons true (mC (.int (100))) (mCons true (mOp pSub true (mOp pPow true (mC (.int (10))) (mC (.int (30)))) (mC (.int (1)))) (mCons true (mOp pSub true (mC (.int (1))) (mOp pPow true (mC (.int (10))) (mC (.int (30))))) mNil))))))))) mNil))))
  (mRet (mSeq true (mCons false (mName 1) (mCons false (mName 2) (mCons false (mName 3) (mCons true (mCallW [.io 0, .val] F_law_one_of (mKNo 0 (mCons false (mC (enc (.list [(.str "change"), (.str "replace")]))) mNil))) (mCons true (mName 4) mNil))))))))))))))))) (show SS ⟨c.base, [0], L2.start ["_law_tape_here", "_law_word", "_law_number_here", "_law_name", "_law_value_here"] vs⟩ (fun cls d _ H => E cls d H) _ _ from (SS.seq (SS.set 1 (show 1 ∉ ([0] : List Nat) by decide) (SV.callW ln_law_one_of (SK.io 0 (SK.val sv_lit SK.nil))))
      (SS.seq (SS.set 1 (show 1 ∉ ([0] : List Nat) by decide) (SV.callW ln_law_one_of (SK.io 0 (SK.val (SV.fz (SV.lst (SA.cons sv_name (SA.cons (sv_c fun _ _ _ => .str _) (SA.cons (sv_c fun _ _ _ => .str _) (SA.cons (sv_c fun _ _ _ => .str _) (SA.cons (sv_c fun _ _ _ => .str _) (SA.cons (sv_c fun _ _ _ => .str _) SA.nil)))))))) SK.nil))))
      (SS.seq (SS.ifs (SV.test (SV.op (pr_mem false) sv_name sv_lit)) (SS.ret (SV.tup (SA.cons sv_name SA.nil))) SS.next)
      (SS.seq (SS.ifs (SV.test (SV.op pr_eq2 sv_name (sv_c fun _ _ _ => .str _))) (SS.ret (SV.tup (SA.cons sv_name (SA.cons (SV.callW ln_law_one_of (SK.io 0 (SK.val sv_lit SK.nil))) SA.nil)))) SS.next)
      (SS.seq (SS.set 2 (show 2 ∉ ([0] : List Nat) by decide) (SV.callW ln_law_one_of (SK.io 0 (SK.val sv_lit SK.nil))))
      (SS.seq (SS.ifs (SV.test (SV.op (pr_mem true) sv_name sv_lit)) (SS.ret (SV.tup (SA.cons sv_name (SA.cons sv_name SA.nil)))) SS.next)
      (SS.seq (SS.set 3 (show 3 ∉ ([0] : List Nat) by decide) (SV.callW ln_law_one_of (SK.io 0 (SK.val (SV.fz (SV.op pr_add sv_lit (SV.op pr_mul (SV.lst (SA.cons (SV.callW ln_law_nym (SK.io 0 SK.nil)) SA.nil)) (sv_c fun _ _ _ => .int _)))) SK.nil))))
      (SS.seq (SS.ifs (SV.test (SV.op pr_eq2 sv_name (sv_c fun _ _ _ => .str _))) (SS.ret (SV.tup (SA.cons sv_name (SA.cons sv_name (SA.cons sv_name (SA.cons (SV.callW ln_law_one_of (SK.io 0 (SK.val sv_lit SK.nil))) SA.nil)))))) SS.next)
      (SS.seq (SS.set 4 (show 4 ∉ ([0] : List Nat) by decide) (SV.callW ln_law_one_of (SK.io 0 (SK.val (SV.fz (SV.lst (SA.cons (sv_c fun _ _ _ => .int _) (SA.cons (sv_c fun _ _ _ => .int _) (SA.cons (SV.op pr_sub (sv_c fun _ _ _ => .int _) (sv_c fun _ _ _ => .int _)) (SA.cons (SV.op pr_sub (sv_c fun _ _ _ => .int _) (sv_c fun _ _ _ => .int _)) (SA.cons (sv_c fun _ _ _ => .int _) (SA.cons (SV.op pr_sub (SV.op pr_pow (sv_c fun _ _ _ => .int _) (sv_c fun _ _ _ => .int _)) (sv_c fun _ _ _ => .int _)) (SA.cons (SV.op pr_sub (sv_c fun _ _ _ => .int _) (SV.op pr_pow (sv_c fun _ _ _ => .int _) (sv_c fun _ _ _ => .int _))) SA.nil))))))))) SK.nil))))
      (SS.ret (SV.tup (SA.cons sv_name (SA.cons sv_name (SA.cons sv_name (SA.cons (SV.callW ln_law_one_of (SK.io 0 (SK.val sv_lit SK.nil))) (SA.cons sv_name SA.nil))))))))))))))))) (by decide) rfl h
theorem ok_law_found {f0 : Addr} {fd0 : FuncData} (F : At K mg "_law_found" "_law_found" s_law_found ["_law_text"] f0 fd0) (B : Bt mg) (E_BadText : EDef P w K mg base "BadText" (c.ca.cl "BadText") (c.ef "BadText")) (xm_BadText : PySem.W.exmOne K (.ref (c.ca.cl "BadText")) (.ref (c.ca.cl "BadText")) = some true) (ef_BadText : c.ef "BadText" = "line") (D_read_history : Def P w K mg base "read_history" ["text"] 6 (spV0 c 1 F_read_history)) : Def P w K mg base "_law_found" ["_law_text"] 7 (spV0 c 1 F_law_found) := by
  refine okD F sc_law_found (fun vs H Q E h => spV_len h) (fun cdv A outer s H vs Q E hr tk po h => ?_)
  have hu := hu_of hr
  have hu64 := hr.units
  have hc := (show (true : Bool) = true from rfl)
  have nd := sc_law_found.nd
  refine ⟨_, (pss_one (ps_tryA (i := 1) rfl rfl nd rfl rfl (nameE E_BadText (by rfl)) tk (fun _ _ _ tkT po => (pss_one (ps_ret (pe_lst (pa_cons pe_str (pa_cons (pe_fn D_read_history (hr.mono (by decide)) tkT (pa_cons (pn 0) pa_nil)) pa_nil)))))) (fun _ _ _ _ _ hz hfl => (pss_one (ps_ret (pe_lst (pa_cons pe_str (pa_cons (pe_xf E_BadText.xf (ef_BadText ▸ E_BadText.no) hz hfl (pn 1)) pa_nil)))))))), ?_⟩
  exact body_ok (pin := [0]) (bs := [true]) (k := 1) (mb := (mTryAs 1 "BadText" "line" [] (mRet (mLst (mCons true (mC (.str "told")) (mCons true (mCallR F_read_history (mCons true (mName 0) mNil)) mNil)))) (mRet (mLst (mCons true (mC (.str "line")) (mCons true (mExc "line" 1) mNil)))))) (show SS ⟨c.base, [0], L2.start ["_law_text", "e"] vs⟩ (fun cls d _ H => E cls d H) _ _ from (SS.tryA (c := c) (xs := []) (show 1 ∉ ([0] : List Nat) by decide) ef_BadText xm_BadText (fun _ h => nomatch h) (fun _ => (SS.ret (SV.lst (SA.cons (sv_c fun _ _ _ => .str _) (SA.cons (SV.callR ln_read_history (SA.cons sv_name SA.nil)) SA.nil))))) (fun _ _ => (SS.ret (SV.lst (SA.cons (sv_c fun _ _ _ => .str _) (SA.cons sv_xf SA.nil))))))) (by decide) rfl h
theorem ok_law_number {f0 : Addr} {fd0 : FuncData} (F : At K mg "_law_number" "_law_number" s_law_number ["_law_word", "_law_low", "_law_high"] f0 fd0) (B : Bt mg)  : Def P w K mg base "_law_number" ["_law_word", "_law_low", "_law_high"] 1 (spV0 c 3 F_law_number) := by
  refine okD F sc_law_number (fun vs H Q E h => spV_len h) (fun cdv A outer s H vs Q E hr tk po h => ?_)
  have hu := hu_of hr
  have hu64 := hr.units
  have hc := (show (true : Bool) = true from rfl)
  have nd := sc_law_number.nd
  refine ⟨_, (pss_cons (ps_if (PW.pt (pw_or (pt_cmpR (opEqT hu64) (pn 0) pe_str (nomark _)) (pw_or (pt_cmpR (opNeS hu64) (pe_lc (own := [("_law_sign", 3)]) hc nd (pi_any (pn 0)) (blkOk_by (own := [("_law_sign", 3)]) (N := ["_law_word", "_law_low", "_law_high", "_law_sign"]) (sc := defScope s_law_number) (by decide +kernel)) (fun _ _ _ _ _ => (pg_name (i := 3) nd rfl (Or.inl rfl))) (fun _ _ _ _ _ => pts_one (pt_not (pt_chain opLe opLe pe_str (pn 3) pe_str))) (fun _ _ _ _ _ => (pn 3))) (pe_lst pa_nil) (nomark _)) (pw_or1 (pt_cmpR opGt (pe_callB callLen (by rfl) B.len bt_len (pa_cons (pn 0) pa_nil)) pe_int (nomark _)))))) (pss_one (ps_ret pe_non)) pss_nil)
      (pss_cons (ps_if (PW.pt (pw_and (pt_cmpR (opEqT hu64) (pe_ix (ixItem hu) (pn 0) pe_int (fun _ _ => rfl)) pe_str (nomark _)) (pw_and1 (pt_cmpR (opNeS hu64) (pn 0) pe_str (nomark _))))) (pss_one (ps_ret pe_non)) pss_nil)
      (pss_one (ps_ret (pe_ifExp (pt_chain opLe opLe (pn 1) (pe_callTy callInt2 (by rfl) B.int boot_int (pa_cons (pn 0) pa_nil)) (pn 2)) (pe_callTy callInt2 (by rfl) B.int boot_int (pa_cons (pn 0) pa_nil)) pe_non))))), ?_⟩
  exact body_ok (pin := [0, 1, 2]) (bs := [true, true, true]) (k := 1) (mb := (mThen (mIf (mBr (mTest T.bool (mOp pEq2 true (mName 0) (mC (.str "")))) (mPure true) (mBr (mTest T.bool (mOp pNe true (mLc [3] (mItV (mName 0)) (gmName 3) (mBr (mTest T.bool (mChain pLe pLe true (mC (.str "0")) (mName 3) (mC (.str "9")))) (mPure false) (mPure true)) (mName 3)) (mLst mNil))) (mPure true) (mTest T.bool (mOp pGt true (mPrim pLen (mCons true (mName 0) mNil)) (mC (.int (30))))))) (mRet (mC .non)) .nx)
  (mThen (mIf (mBr (mTest T.bool (mOp pEq2 true (mOp pItem true (mName 0) (mC (.int (0)))) (mC (.str "0")))) (mTest T.bool (mOp pNe true (mName 0) (mC (.str "0")))) (mPure false)) (mRet (mC .non)) .nx)
  (mRet (mBr (mTest T.bool (mChain pLe pLe true (mName 1) (mPrim pInt2 (mCons true (mName 0) mNil)) (mName 2))) (mPrim pInt2 (mCons true (mName 0) mNil)) (mC .non)))))) (show SS ⟨c.base, [0, 1, 2], L2.start ["_law_word", "_law_low", "_law_high", "_law_sign"] vs⟩ (fun cls d _ H => E cls d H) _ _ from (SS.seq (SS.ifs (ST.or (SV.test (SV.op pr_eq2 sv_name (sv_c fun _ _ _ => .str _))) (ST.or (SV.test (SV.op pr_ne (SV.lc (vs := [3]) (SI.any sv_name) (fun _ _ => (SG.name 3 (but_not (by decide)))) (ST.not (SV.test (SV.chain pr_le pr_le (sv_c fun _ _ _ => .str _) sv_name (sv_c fun _ _ _ => .str _)))) sv_name) (SV.lst SA.nil))) (SV.test (SV.op pr_gt (SV.cb pr_len (SA.cons sv_name SA.nil)) (sv_c fun _ _ _ => .int _))))) (SS.ret (sv_c fun _ _ _ => .non)) SS.next)
      (SS.seq (SS.ifs (ST.and (SV.test (SV.op pr_eq2 (SV.op pr_item sv_name (sv_c fun _ _ _ => .int _)) (sv_c fun _ _ _ => .str _))) (SV.test (SV.op pr_ne sv_name (sv_c fun _ _ _ => .str _)))) (SS.ret (sv_c fun _ _ _ => .non)) SS.next)
      (SS.ret (ST.ife (SV.test (SV.chain pr_le pr_le sv_name (SV.cb pr_int2 (SA.cons sv_name SA.nil)) sv_name)) (SV.cb pr_int2 (SA.cons sv_name SA.nil)) (sv_c fun _ _ _ => .non)))))) (by decide) rfl h
theorem ok_law_value {f0 : Addr} {fd0 : FuncData} (F : At K mg "_law_value" "_law_value" s_law_value ["_law_word"] f0 fd0) (B : Bt mg) (D_law_number : Def P w K mg base "_law_number" ["_law_word", "_law_low", "_law_high"] 1 (spV0 c 3 F_law_number)) : Def P w K mg base "_law_value" ["_law_word"] 2 (spV0 c 1 F_law_value) := by
  refine okD F sc_law_value (fun vs H Q E h => spV_len h) (fun cdv A outer s H vs Q E hr tk po h => ?_)
  have hu := hu_of hr
  have hu64 := hr.units
  have hc := (show (true : Bool) = true from rfl)
  have nd := sc_law_value.nd
  refine ⟨_, (pss_cons (ps_if (pt_cmpR (opEqT hu64) (pe_slice slSlice (pn 0) po_none (po_some pe_int)) pe_str (nomark _)) (pss_cons (ps_set (i := 1) nd rfl (Or.inl rfl) (pe_fn D_law_number (hr.mono (by decide)) tk (pa_cons (pe_slice slSlice (pn 0) (po_some pe_int) po_none) (pa_cons pe_int (pa_cons (pe_op opPow pe_int pe_int) pa_nil)))))
      (pss_one (ps_ret (pe_ifExp (pt_cmpR opIs (pn 1) pe_non (nomark _)) pe_non (pe_op opSub pe_int (pn 1)))))) pss_nil)
      (pss_one (ps_ret (pe_fn D_law_number (hr.mono (by decide)) tk (pa_cons (pn 0) (pa_cons pe_int (pa_cons (pe_op opPow pe_int pe_int) pa_nil))))))), ?_⟩
  exact body_ok (pin := [0]) (bs := [true]) (k := 1) (mb := (mThen (mIf (mTest T.bool (mOp pEq2 true (mSlice (mName 0) (mPure none) (mPart (mC (.int (1))))) (mC (.str "-")))) (mThen (mSet 1 (mCallR F_law_number (mCons true (mSlice (mName 0) (mPart (mC (.int (1)))) (mPure none)) (mCons true (mC (.int (1))) (mCons true (mOp pPow true (mC (.int (10))) (mC (.int (30)))) mNil)))))
  (mRet (mBr (mTest T.bool (mOp pIs true (mName 1) (mC .non))) (mC .non) (mOp pSub true (mC (.int (0))) (mName 1))))) .nx)
  (mRet (mCallR F_law_number (mCons true (mName 0) (mCons true (mC (.int (0))) (mCons true (mOp pPow true (mC (.int (10))) (mC (.int (30)))) mNil))))))) (show SS ⟨c.base, [0], L2.start ["_law_word", "_law_found_here"] vs⟩ (fun cls d _ H => E cls d H) _ _ from (SS.seq (SS.ifs (SV.test (SV.op pr_eq2 (SV.slice sv_name SO.none (SO.some (sv_c fun _ _ _ => .int _))) (sv_c fun _ _ _ => .str _))) (SS.seq (SS.set 1 (show 1 ∉ ([0] : List Nat) by decide) (SV.callR ln_law_number (SA.cons (SV.slice sv_name (SO.some (sv_c fun _ _ _ => .int _)) SO.none) (SA.cons (sv_c fun _ _ _ => .int _) (SA.cons (SV.op pr_pow (sv_c fun _ _ _ => .int _) (sv_c fun _ _ _ => .int _)) SA.nil)))))
      (SS.ret (ST.ife (SV.test (SV.op pr_is sv_name (sv_c fun _ _ _ => .non))) (sv_c fun _ _ _ => .non) (SV.op pr_sub (sv_c fun _ _ _ => .int _) sv_name)))) SS.next)
      (SS.ret (SV.callR ln_law_number (SA.cons sv_name (SA.cons (sv_c fun _ _ _ => .int _) (SA.cons (SV.op pr_pow (sv_c fun _ _ _ => .int _) (sv_c fun _ _ _ => .int _)) SA.nil))))))) (by decide) rfl h
theorem ok_law_is_name {f0 : Addr} {fd0 : FuncData} (F : At K mg "_law_is_name" "_law_is_name" s_law_is_name ["_law_value_here"] f0 fd0) (B : Bt mg)  : Def P w K mg base "_law_is_name" ["_law_value_here"] 1 (spV0 c 1 F_law_is_name) := by
  refine okD F sc_law_is_name (fun vs H Q E h => spV_len h) (fun cdv A outer s H vs Q E hr tk po h => ?_)
  have hu := hu_of hr
  have hu64 := hr.units
  have hc := (show (true : Bool) = true from rfl)
  have nd := sc_law_is_name.nd
  refine ⟨_, (pss_cons (ps_if (PW.pt (pw_or (pt_not (pt_tru (pe_callB callIsi (by rfl) B.isinstance boot_isinstance (pa_cons (pn 0) (pa_cons (pe_bltn (v := .ty "str") (by rfl) B.str boot_str rfl) pa_nil))))) (pw_or1 (pt_not (pt_chain opLe opLe pe_int (pe_callB callLen (by rfl) B.len bt_len (pa_cons (pn 0) pa_nil)) pe_int))))) (pss_one (ps_ret pe_bl)) pss_nil)
      (pss_one (ps_ret (pe_cmpR (opEqT hu64) (pe_lc (own := [("_law_sign", 1)]) hc nd (pi_any (pn 0)) (blkOk_by (own := [("_law_sign", 1)]) (N := ["_law_value_here", "_law_sign"]) (sc := defScope s_law_is_name) (by decide +kernel)) (fun _ _ _ _ _ => (pg_name (i := 1) nd rfl (Or.inl rfl))) (fun _ _ _ _ _ => pts_one (pt_not (pt_chain opLe opLe pe_str (pn 1) pe_str))) (fun _ _ _ _ _ => (pn 1))) (pe_lst pa_nil) (nomark _))))), ?_⟩
  exact body_ok (pin := [0]) (bs := [true]) (k := 1) (mb := (mThen (mIf (mBr (mBr (mTest T.tru (mPrim (pIsi "str") (mCons true (mName 0) mNil))) (mPure false) (mPure true)) (mPure true) (mBr (mTest T.bool (mChain pLe pLe true (mC (.int (1))) (mPrim pLen (mCons true (mName 0) mNil)) (mC (.int (6))))) (mPure false) (mPure true))) (mRet (mC (.bl false))) .nx)
  (mRet (mOp pEq2 true (mLc [1] (mItV (mName 0)) (gmName 1) (mBr (mTest T.bool (mChain pLe pLe true (mC (.str "a")) (mName 1) (mC (.str "z")))) (mPure false) (mPure true)) (mName 1)) (mLst mNil))))) (show SS ⟨c.base, [0], L2.start ["_law_value_here", "_law_sign"] vs⟩ (fun cls d _ H => E cls d H) _ _ from (SS.seq (SS.ifs (ST.or (ST.not (SV.truth (SV.isi "str" sv_name))) (ST.not (SV.test (SV.chain pr_le pr_le (sv_c fun _ _ _ => .int _) (SV.cb pr_len (SA.cons sv_name SA.nil)) (sv_c fun _ _ _ => .int _))))) (SS.ret (sv_c fun _ _ _ => .bl _)) SS.next)
      (SS.ret (SV.op pr_eq2 (SV.lc (vs := [1]) (SI.any sv_name) (fun _ _ => (SG.name 1 (but_not (by decide)))) (ST.not (SV.test (SV.chain pr_le pr_le (sv_c fun _ _ _ => .str _) sv_name (sv_c fun _ _ _ => .str _)))) sv_name) (SV.lst SA.nil))))) (by decide) rfl h
theorem ok_law_deed_of {f0 : Addr} {fd0 : FuncData} (F : At K mg "_law_deed_of" "_law_deed_of" s_law_deed_of ["_law_line"] f0 fd0) (B : Bt mg) (D_law_value : Def P w K mg base "_law_value" ["_law_word"] 2 (spV0 c 1 F_law_value)) (D_law_number : Def P w K mg base "_law_number" ["_law_word", "_law_low", "_law_high"] 1 (spV0 c 3 F_law_number)) (D_law_is_name : Def P w K mg base "_law_is_name" ["_law_value_here"] 1 (spV0 c 1 F_law_is_name)) : Def P w K mg base "_law_deed_of" ["_law_line"] 3 (spV0 c 1 F_law_deed_of) := by
  refine okD F sc_law_deed_of (fun vs H Q E h => spV_len h) (fun cdv A outer s H vs Q E hr tk po h => ?_)
  have hu := hu_of hr
  have hu64 := hr.units
  have hc := (show (true : Bool) = true from rfl)
  have nd := sc_law_deed_of.nd
  refine ⟨_, (pss_cons (ps_set (i := 1) nd rfl (Or.inl rfl) (pe_split (pn 0) pe_str))
      (pss_cons (ps_if (pt_cmpR (op_memIn hu64) (pn 1) (li_tup (la_cons (li_lst (la_cons li_str la_nil)) (la_cons (li_lst (la_cons li_str la_nil)) (la_cons (li_lst (la_cons li_str la_nil)) la_nil)))) rfl) (pss_one (ps_ret (pe_tup (pa_cons (pe_ix (ixItem hu) (pn 1) pe_int (fun _ _ => rfl)) pa_nil)))) pss_nil)
      (pss_cons (ps_if (PW.pt (pw_and (pt_cmpR (opEqT hu64) (pe_callB callLen (by rfl) B.len bt_len (pa_cons (pn 1) pa_nil)) pe_int (nomark _)) (pw_and1 (pt_cmpR (opEqT hu64) (pe_ix (ixItem hu) (pn 1) pe_int (fun _ _ => rfl)) pe_str (nomark _))))) (pss_cons (ps_set (i := 2) nd rfl (Or.inl rfl) (pe_fn D_law_number (hr.mono (by decide)) tk (pa_cons (pe_ix (ixItem hu) (pn 1) pe_int (fun _ _ => rfl)) (pa_cons pe_int (pa_cons pe_int pa_nil)))))
      (pss_one (ps_ret (pe_ifExp (pt_cmpR opIs (pn 2) pe_non (nomark _)) pe_non (pe_tup (pa_cons pe_str (pa_cons (pn 2) pa_nil))))))) pss_nil)
      (pss_cons (ps_set (i := 3) nd rfl (Or.inl rfl) (pe_ifExp (pt_cmpR opGt (pe_callB callLen (by rfl) B.len bt_len (pa_cons (pn 1) pa_nil)) pe_int (nomark _)) (pe_fn D_law_number (hr.mono (by decide)) tk (pa_cons (pe_ix (ixItem hu) (pn 1) pe_int (fun _ _ => rfl)) (pa_cons pe_int (pa_cons (pe_op opPow pe_int pe_int) pa_nil)))) pe_non))
      (pss_cons (ps_if (pt_cmpR opIs (pn 3) pe_non (nomark _)) (pss_one (ps_ret pe_non)) pss_nil)
      (pss_cons (ps_if (pt_cmpR (opIn hu) (pe_ix (ixItem hu) (pn 1) pe_int (fun _ _ => rfl)) (li_tup (la_cons li_str (la_cons li_str (la_cons li_str (la_cons li_str (la_cons li_str (la_cons li_str la_nil))))))) rfl) (pss_one (ps_ret (pe_ifExp (pt_cmpR (opEqT hu64) (pe_callB callLen (by rfl) B.len bt_len (pa_cons (pn 1) pa_nil)) pe_int (nomark _)) (pe_tup (pa_cons (pe_ix (ixItem hu) (pn 1) pe_int (fun _ _ => rfl)) (pa_cons (pn 3) pa_nil))) pe_non))) pss_nil)
      (pss_cons (ps_set (i := 4) nd rfl (Or.inl rfl) (pe_dget2 hu (pe_disp (pps_cons pe_str pe_int (pps_cons pe_str pe_int pps_nil)) (by rfl) (by rfl) (fun z => by cases z) (by decide)) (pe_ix (ixItem hu) (pn 1) pe_int (fun _ _ => rfl)) pe_int ⟨by rfl, by rfl, by rfl, by rfl⟩))
      (pss_cons (ps_if (PW.pt (pw_or (pt_cmpR (opNeS hu64) (pe_callB callLen (by rfl) B.len bt_len (pa_cons (pn 1) pa_nil)) (pn 4) (nomark _)) (pw_or1 (pt_not (pt_tru (pe_fn D_law_is_name (hr.mono (by decide)) tk (pa_cons (pe_ix (ixItem hu) (pn 1) pe_int (fun _ _ => rfl)) pa_nil))))))) (pss_one (ps_ret pe_non)) pss_nil)
      (pss_cons (ps_if (pt_cmpR (opNotIn hu) (pe_ix (ixItem hu) (pn 1) pe_int (fun _ _ => rfl)) (pe_slice slSlice (li_lst (la_cons li_str (la_cons li_str (la_cons li_str (la_cons li_str la_nil))))) (po_some (pe_op opMul pe_int (pe_callTy callInt2 (by rfl) B.int boot_int (pa_cons (pe_cmpR (opEqT hu64) (pn 4) pe_int (nomark _)) pa_nil)))) po_none) rfl) (pss_one (ps_ret pe_non)) pss_nil)
      (pss_cons (ps_if (pt_cmpR (opEqT hu64) (pn 4) pe_int (nomark _)) (pss_one (ps_ret (pe_tup (pa_cons pe_str (pa_cons (pn 3) (pa_cons (pe_ix (ixItem hu) (pn 1) pe_int (fun _ _ => rfl)) (pa_cons (pe_ix (ixItem hu) (pn 1) pe_int (fun _ _ => rfl)) pa_nil))))))) pss_nil)
      (pss_cons (ps_set (i := 5) nd rfl (Or.inl rfl) (pe_fn D_law_value (hr.mono (by decide)) tk (pa_cons (pe_ix (ixItem hu) (pn 1) pe_int (fun _ _ => rfl)) pa_nil)))
      (pss_one (ps_ret (pe_ifExp (pt_cmpR opIs (pn 5) pe_non (nomark _)) pe_non (pe_tup (pa_cons pe_str (pa_cons (pn 3) (pa_cons (pe_ix (ixItem hu) (pn 1) pe_int (fun _ _ => rfl)) (pa_cons (pe_ix (ixItem hu) (pn 1) pe_int (fun _ _ => rfl)) (pa_cons (pn 5) pa_nil)))))))))))))))))))), ?_⟩
  exact body_ok (pin := [0]) (bs := [true]) (k := 5) (mb := (mThen (mSet 1 (mM1 pSplit (mName 0) (mC (.str " "))))
  (mThen (mIf (mTest T.bool (mOp (pMemD false) true (mName 1) (mC (enc (.tuple [(.list [(.str "begin")]), (.list [(.str "crash")]), (.list [(.str "clean")])]))))) (mRet (mSeq true (mCons true (mOp pItem true (mName 1) (mC (.int (0)))) mNil))) .nx)
  (mThen (mIf (mBr (mTest T.bool (mOp pEq2 true (mPrim pLen (mCons true (mName 1) mNil)) (mC (.int (2))))) (mTest T.bool (mOp pEq2 true (mOp pItem true (mName 1) (mC (.int (0)))) (mC (.str "horizon")))) (mPure false)) (mThen (mSet 2 (mCallR F_law_number (mCons true (mOp pItem true (mName 1) (mC (.int (1)))) (mCons true (mC (.int (0))) (mCons true (mC (.int (60))) mNil)))))
  (mRet (mBr (mTest T.bool (mOp pIs true (mName 2) (mC .non))) (mC .non) (mSeq true (mCons true (mC (.str "horizon")) (mCons true (mName 2) mNil)))))) .nx)
  (mThen (mSet 3 (mBr (mTest T.bool (mOp pGt true (mPrim pLen (mCons true (mName 1) mNil)) (mC (.int (1))))) (mCallR F_law_number (mCons true (mOp pItem true (mName 1) (mC (.int (1)))) (mCons true (mC (.int (1))) (mCons true (mOp pPow true (mC (.int (10))) (mC (.int (6)))) mNil)))) (mC .non)))
  (mThen (mIf (mTest T.bool (mOp pIs true (mName 3) (mC .non))) (mRet (mC .non)) .nx)
  (mThen (mIf (mTest T.bool (mOp (pMem false) true (mOp pItem true (mName 1) (mC (.int (0)))) (mC (enc (.tuple [(.str "save"), (.str "release"), (.str "back"), (.str "commit"), (.str "abort"), (.str "prepare")]))))) (mRet (mBr (mTest T.bool (mOp pEq2 true (mPrim pLen (mCons true (mName 1) mNil)) (mC (.int (2))))) (mSeq true (mCons true (mOp pItem true (mName 1) (mC (.int (0)))) (mCons true (mName 3) mNil))) (mC .non))) .nx)
  (mThen (mSet 4 (mGet2 (mDisp (mDCons (mC (.str "lock")) (mC (.int (4))) (mDCons (mC (.str "change")) (mC (.int (5))) mDNil))) (mOp pItem true (mName 1) (mC (.int (0)))) (mC (.int (0)))))
  (mThen (mIf (mBr (mTest T.bool (mOp pNe true (mPrim pLen (mCons true (mName 1) mNil)) (mName 4))) (mPure true) (mBr (mTest T.tru (mCallR F_law_is_name (mCons true (mOp pItem true (mName 1) (mC (.int (2)))) mNil))) (mPure false) (mPure true))) (mRet (mC .non)) .nx)
  (mThen (mIf (mTest T.bool (mOp (pMem true) true (mOp pItem true (mName 1) (mC (.int (3)))) (mSlice (mC (enc (.list [(.str "hold"), (.str "keep"), (.str "change"), (.str "replace")]))) (mPart (mOp pMul true (mC (.int (2))) (mPrim pInt2 (mCons true (mOp pEq2 true (mName 4) (mC (.int (5)))) mNil)))) (mPure none)))) (mRet (mC .non)) .nx)
  (mThen (mIf (mTest T.bool (mOp pEq2 true (mName 4) (mC (.int (4))))) (mRet (mSeq true (mCons true (mC (.str "lock")) (mCons true (mName 3) (mCons true (mOp pItem true (mName 1) (mC (.int (2)))) (mCons true (mOp pItem true (mName 1) (mC (.int (3)))) mNil)))))) .nx)
  (mThen (mSet 5 (mCallR F_law_value (mCons true (mOp pItem true (mName 1) (mC (.int (4)))) mNil)))
  (mRet (mBr (mTest T.bool (mOp pIs true (mName 5) (mC .non))) (mC .non) (mSeq true (mCons true (mC (.str "change")) (mCons true (mName 3) (mCons true (mOp pItem true (mName 1) (mC (.int (2)))) (mCons true (mOp pItem true (mName 1) (mC (.int (3)))) (mCons true (mName 5) mNil)))))))))))))))))))) (show SS ⟨c.base, [0], L2.start ["_law_line", "_law_words", "_law_found_here", "_law_number_here", "_law_size", "_law_value_here"] vs⟩ (fun cls d _ H => E cls d H) _ _ from (SS.seq (SS.set 1 (show 1 ∉ ([0] : List Nat) by decide) (SV.met1 pr_split sv_name (sv_c fun _ _ _ => .str _)))
      (SS.seq (SS.ifs (SV.test (SV.op (pr_memD false) sv_name sv_lit)) (SS.ret (SV.tup (SA.cons (SV.op pr_item sv_name (sv_c fun _ _ _ => .int _)) SA.nil))) SS.next)
      (SS.seq (SS.ifs (ST.and (SV.test (SV.op pr_eq2 (SV.cb pr_len (SA.cons sv_name SA.nil)) (sv_c fun _ _ _ => .int _))) (SV.test (SV.op pr_eq2 (SV.op pr_item sv_name (sv_c fun _ _ _ => .int _)) (sv_c fun _ _ _ => .str _)))) (SS.seq (SS.set 2 (show 2 ∉ ([0] : List Nat) by decide) (SV.callR ln_law_number (SA.cons (SV.op pr_item sv_name (sv_c fun _ _ _ => .int _)) (SA.cons (sv_c fun _ _ _ => .int _) (SA.cons (sv_c fun _ _ _ => .int _) SA.nil)))))
      (SS.ret (ST.ife (SV.test (SV.op pr_is sv_name (sv_c fun _ _ _ => .non))) (sv_c fun _ _ _ => .non) (SV.tup (SA.cons (sv_c fun _ _ _ => .str _) (SA.cons sv_name SA.nil)))))) SS.next)
      (SS.seq (SS.set 3 (show 3 ∉ ([0] : List Nat) by decide) (ST.ife (SV.test (SV.op pr_gt (SV.cb pr_len (SA.cons sv_name SA.nil)) (sv_c fun _ _ _ => .int _))) (SV.callR ln_law_number (SA.cons (SV.op pr_item sv_name (sv_c fun _ _ _ => .int _)) (SA.cons (sv_c fun _ _ _ => .int _) (SA.cons (SV.op pr_pow (sv_c fun _ _ _ => .int _) (sv_c fun _ _ _ => .int _)) SA.nil)))) (sv_c fun _ _ _ => .non)))
      (SS.seq (SS.ifs (SV.test (SV.op pr_is sv_name (sv_c fun _ _ _ => .non))) (SS.ret (sv_c fun _ _ _ => .non)) SS.next)
      (SS.seq (SS.ifs (SV.test (SV.op (pr_mem false) (SV.op pr_item sv_name (sv_c fun _ _ _ => .int _)) sv_lit)) (SS.ret (ST.ife (SV.test (SV.op pr_eq2 (SV.cb pr_len (SA.cons sv_name SA.nil)) (sv_c fun _ _ _ => .int _))) (SV.tup (SA.cons (SV.op pr_item sv_name (sv_c fun _ _ _ => .int _)) (SA.cons sv_name SA.nil))) (sv_c fun _ _ _ => .non))) SS.next)
      (SS.seq (SS.set 4 (show 4 ∉ ([0] : List Nat) by decide) (SV.get2 (SV.disp (SD.cons (sv_c fun _ _ _ => .str _) (sv_c fun _ _ _ => .int _) (SD.cons (sv_c fun _ _ _ => .str _) (sv_c fun _ _ _ => .int _) SD.nil))) (SV.op pr_item sv_name (sv_c fun _ _ _ => .int _)) (sv_c fun _ _ _ => .int _)))
      (SS.seq (SS.ifs (ST.or (SV.test (SV.op pr_ne (SV.cb pr_len (SA.cons sv_name SA.nil)) sv_name)) (ST.not (SV.truth (SV.callR ln_law_is_name (SA.cons (SV.op pr_item sv_name (sv_c fun _ _ _ => .int _)) SA.nil))))) (SS.ret (sv_c fun _ _ _ => .non)) SS.next)
      (SS.seq (SS.ifs (SV.test (SV.op (pr_mem true) (SV.op pr_item sv_name (sv_c fun _ _ _ => .int _)) (SV.slice sv_lit (SO.some (SV.op pr_mul (sv_c fun _ _ _ => .int _) (SV.cb pr_int2 (SA.cons (SV.op pr_eq2 sv_name (sv_c fun _ _ _ => .int _)) SA.nil)))) SO.none))) (SS.ret (sv_c fun _ _ _ => .non)) SS.next)
      (SS.seq (SS.ifs (SV.test (SV.op pr_eq2 sv_name (sv_c fun _ _ _ => .int _))) (SS.ret (SV.tup (SA.cons (sv_c fun _ _ _ => .str _) (SA.cons sv_name (SA.cons (SV.op pr_item sv_name (sv_c fun _ _ _ => .int _)) (SA.cons (SV.op pr_item sv_name (sv_c fun _ _ _ => .int _)) SA.nil)))))) SS.next)
      (SS.seq (SS.set 5 (show 5 ∉ ([0] : List Nat) by decide) (SV.callR ln_law_value (SA.cons (SV.op pr_item sv_name (sv_c fun _ _ _ => .int _)) SA.nil)))
      (SS.ret (ST.ife (SV.test (SV.op pr_is sv_name (sv_c fun _ _ _ => .non))) (sv_c fun _ _ _ => .non) (SV.tup (SA.cons (sv_c fun _ _ _ => .str _) (SA.cons sv_name (SA.cons (SV.op pr_item sv_name (sv_c fun _ _ _ => .int _)) (SA.cons (SV.op pr_item sv_name (sv_c fun _ _ _ => .int _)) (SA.cons sv_name SA.nil)))))))))))))))))))) (by decide) rfl h
theorem ok_law_history_of {f0 : Addr} {fd0 : FuncData} (F : At K mg "_law_history_of" "_law_history_of" s_law_history_of ["_law_text"] f0 fd0) (B : Bt mg) (D_law_deed_of : Def P w K mg base "_law_deed_of" ["_law_line"] 3 (spV0 c 1 F_law_deed_of)) : Def P w K mg base "_law_history_of" ["_law_text"] 4 (spV0 c 1 F_law_history_of) := by
  refine okD F sc_law_history_of (fun vs H Q E h => spV_len h) (fun cdv A outer s H vs Q E hr tk po h => ?_)
  have hu := hu_of hr
  have hu64 := hr.units
  have hc := (show (true : Bool) = true from rfl)
  have nd := sc_law_history_of.nd
  refine ⟨_, (pss_cons (ps_if (pt_not (pt_tru (pe_callB callIsi (by rfl) B.isinstance boot_isinstance (pa_cons (pn 0) (pa_cons (pe_bltn (v := .ty "str") (by rfl) B.str boot_str rfl) pa_nil))))) (pss_one (ps_ret (li_lst (la_cons li_str (la_cons li_int la_nil))))) pss_nil)
      (pss_cons (ps_set (i := 1) nd rfl (Or.inl rfl) (pe_lst pa_nil))
      (pss_cons (ps_for po hc (pi_enum (by rfl) B.enumerate (pa_cons (pe_ifExp (pt_cmpR (opNeS hu64) (pn 0) pe_str (nomark _)) (pe_split (pn 0) pe_str) (pe_lst pa_nil)) pa_nil)) (pg_tup (by rfl) (pgs_cons (pg_name (i := 2) nd rfl (Or.inl rfl)) (pgs_cons (pg_name (i := 3) nd rfl (Or.inl rfl)) pgs_nil))) (pss_cons (ps_set (i := 4) nd rfl (Or.inl rfl) (pe_fn D_law_deed_of (hr.mono (by decide)) tk (pa_cons (pn 3) pa_nil)))
      (pss_cons (ps_if (PW.pt (pw_or (pt_cmpR opIs (pn 4) pe_non (nomark _)) (pw_or1 (pt_cmpR (opEqT hu64) (pn 2) pe_int (nomark _))))) (pss_one (ps_ret (pe_lst (pa_cons pe_str (pa_cons (pe_op opAdd (pn 2) pe_int) pa_nil))))) pss_nil)
      (pss_one (ps_expr (pe_bm PySem.F.plainAttrs_list PySem.F.slot_list_append PySem.F.type_list_append mtAppend (pn 1) (pa_cons (pn 4) pa_nil)))))))
      (pss_one (ps_ret (pe_lst (pa_cons pe_str (pa_cons (pe_callTy callTuple (by rfl) B.tuple boot_tuple (pa_cons (pn 1) pa_nil)) pa_nil)))))))), ?_⟩
  exact body_ok (pin := [0]) (bs := [true]) (k := 4) (mb := (mThen (mIf (mBr (mTest T.tru (mPrim (pIsi "str") (mCons true (mName 0) mNil))) (mPure false) (mPure true)) (mRet (mC (enc (.list [(.str "line"), (.int (1))])))) .nx)
  (mThen (mSet 1 (mLst mNil))
  (mThen (mFor (mEnV (mBr (mTest T.bool (mOp pNe true (mName 0) (mC (.str "")))) (mM1 pSplit (mName 0) (mC (.str "
"))) (mLst mNil))) (gmTup 2 (gmCons (gmName 2) (gmCons (gmName 3) gmNil))) (mThen (mSet 4 (mCallR F_law_deed_of (mCons true (mName 3) mNil)))
  (mThen (mIf (mBr (mTest T.bool (mOp pIs true (mName 4) (mC .non))) (mPure true) (mTest T.bool (mOp pEq2 true (mName 2) (mC (.int (60)))))) (mRet (mLst (mCons true (mC (.str "line")) (mCons true (mOp pAdd true (mName 2) (mC (.int (1)))) mNil)))) .nx)
  (mDrop (mMethN 1 fAppend (mCons true (mName 4) mNil))))))
  (mRet (mLst (mCons true (mC (.str "told")) (mCons true (mPrim pTuple (mCons true (mName 1) mNil)) mNil)))))))) (show SS ⟨c.base, [0], L2.start ["_law_text", "_law_found_here", "_law_at", "_law_line", "_law_deed"] vs⟩ (fun cls d _ H => E cls d H) _ _ from (SS.seq (SS.ifs (ST.not (SV.truth (SV.isi "str" sv_name))) (SS.ret sv_lit) SS.next)
      (SS.seq (SS.set 1 (show 1 ∉ ([0] : List Nat) by decide) (SV.lst SA.nil))
      (SS.seq (SS.for_ (SI.enumV (ST.ife (SV.test (SV.op pr_ne sv_name (sv_c fun _ _ _ => .str _))) (SV.met1 pr_split sv_name (sv_c fun _ _ _ => .str _)) (SV.lst SA.nil))) (SG.tup (SGs.cons (SG.name 2 (show 2 ∉ ([0] : List Nat) by decide)) (SGs.cons (SG.name 3 (show 3 ∉ ([0] : List Nat) by decide)) SGs.nil))) (SS.seq (SS.set 4 (show 4 ∉ ([0] : List Nat) by decide) (SV.callR ln_law_deed_of (SA.cons sv_name SA.nil)))
      (SS.seq (SS.ifs (ST.or (SV.test (SV.op pr_is sv_name (sv_c fun _ _ _ => .non))) (SV.test (SV.op pr_eq2 sv_name (sv_c fun _ _ _ => .int _)))) (SS.ret (SV.lst (SA.cons (sv_c fun _ _ _ => .str _) (SA.cons (SV.op pr_add sv_name (sv_c fun _ _ _ => .int _)) SA.nil)))) SS.next)
      (SS.drop (SV.methN mu_append (SA.cons sv_name SA.nil))))))
      (SS.ret (SV.lst (SA.cons (sv_c fun _ _ _ => .str _) (SA.cons (SV.cb pr_tuple (SA.cons sv_name SA.nil)) SA.nil)))))))) (by decide) rfl h
theorem ok_law {f0 : Addr} {fd0 : FuncData} (F : At K mg "law" "law" s_law ["_law_script"] f0 fd0) (B : Bt mg) (D_law_tape : Def P w K mg base "_law_tape" ["_law_script", "_law_start"] 1 (spV0 c 2 F_law_tape)) (D_law_any : Def P w K mg base "_law_any" ["_law_tape_here"] 3 (spV0 c 1 F_law_any)) (D_law_one_of : Def P w K mg base "_law_one_of" ["_law_tape_here", "_law_items"] 2 (spV0 c 2 F_law_one_of)) (D_law_deeds_text : Def P w K mg base "_law_deeds_text" ["_law_history"] 1 (spV0 c 1 F_law_deeds_text)) (D_law_pick : Def P w K mg base "_law_pick" ["_law_tape_here", "_law_many"] 1 (spV0 c 2 F_law_pick)) (D_law_bent : Def P w K mg base "_law_bent" ["_law_tape_here", "_law_text", "_law_odd"] 3 (spV0 c 3 F_law_bent)) (D_law_some_deed : Def P w K mg base "_law_some_deed" ["_law_tape_here"] 4 (spV0 c 1 F_law_some_deed)) (D_law_found : Def P w K mg base "_law_found" ["_law_text"] 7 (spV0 c 1 F_law_found)) (D_law_history_of : Def P w K mg base "_law_history_of" ["_law_text"] 4 (spV0 c 1 F_law_history_of)) : DefG P w K mg base "law" ["_law_script"] 8 (spV0 c 1 F_law) := by
  refine okDG F sc_law (fun vs H Q E h => spV_len h) (fun cdv A outer s H vs Q E hG hr tk po h => ?_)
  have hu := hu_of hr
  have hu64 := hr.units
  have hc := (show (true : Bool) = true from rfl)
  have nd := sc_law.nd
  have hu100 := room100 hr
  refine ⟨_, (pss_cons (ps_set (i := 1) nd rfl (Or.inl rfl) (li_lst (la_cons li_str (la_cons li_str (la_cons li_str (la_cons li_str (la_cons li_str (la_cons li_str (la_cons li_str (la_cons li_str (la_cons li_str (la_cons li_str (la_cons li_str (la_cons li_str (la_cons li_str la_nil)))))))))))))))
      (pss_cons (ps_set (i := 1) nd rfl (Or.inl rfl) (pe_op opAdd (pn 1) (li_lst (la_cons li_str (la_cons li_str (la_cons li_str la_nil))))))
      (pss_cons (ps_for po hc (pi_range1 (by rfl) B.range (pa_cons (pe_callB (callMax hc) (by rfl) B.max bt_max (pa_cons pe_int (pa_cons (pe_callB (callMin hc) (by rfl) B.min bt_min (pa_cons pe_int (pa_cons (pe_callB callLen (by rfl) B.len bt_len (pa_cons (pn 0) pa_nil)) pa_nil))) pa_nil))) pa_nil)) (pg_name (i := 2) nd rfl (Or.inl rfl)) (pss_cons (ps_set (i := 3) nd rfl (Or.inr rfl) (pe_fn D_law_tape (hr.mono (by decide)) tk (pa_cons (pn 0) (pa_cons (pn 2) pa_nil))))
      (pss_cons (ps_for po hc (pi_range1 (by rfl) B.range (pa_cons pe_int pa_nil)) (pg_name (i := 4) nd rfl (Or.inl rfl)) (pss_cons (ps_set (i := 5) nd rfl (Or.inl rfl) (pe_fn D_law_deeds_text (hr.mono (by decide)) tk (pa_cons (pe_lc (own := [("_law_k", 6)]) hc nd (pi_range1 (by rfl) B.range (pa_cons (pe_fn D_law_pick (hr.mono (by decide)) tk (pa_cons (pn 3) (pa_cons pe_int pa_nil))) pa_nil)) (blkOk_by (own := [("_law_k", 6)]) (N := ["_law_script", "_law_odd", "_law_start", "_law_tape_here", "_law_turn", "_law_text", "_law_k", "_law_change", "_law_value_here", "_law_long", "_law_cases", "_law_signs", "_law_one", "_law_seen"]) (sc := defScope s_law) (by decide +kernel)) (fun _ _ _ _ _ => (pg_name (i := 6) nd rfl (Or.inl rfl))) (fun _ _ _ _ _ => pts_nil) (fun _ _ _ _ _ => (pe_fn D_law_some_deed (hr.mono (by decide)) tkF (pa_cons (pn 3) pa_nil)))) pa_nil)))
      (pss_cons (ps_for po hc (pi_range1 (by rfl) B.range (pa_cons (pe_op opAdd pe_int (pe_fn D_law_pick (hr.mono (by decide)) tk (pa_cons (pn 3) (pa_cons pe_int pa_nil)))) pa_nil)) (pg_name (i := 7) nd rfl (Or.inl rfl)) (pss_one (ps_set (i := 5) nd rfl (Or.inl rfl) (pe_fn D_law_bent (hr.mono (by decide)) tk (pa_cons (pn 3) (pa_cons (pn 5) (pa_cons (pn 1) pa_nil)))))))
      (pss_one (ps_if (pt_cmpR (opNeS hu64) (pe_callB (call_repr hG hu100) (by rfl) B.repr boot_repr (pa_cons (pe_fn D_law_found (hr.mono (by decide)) tk (pa_cons (pn 5) pa_nil)) pa_nil)) (pe_callB (call_repr hG hu100) (by rfl) B.repr boot_repr (pa_cons (pe_fn D_law_history_of (hr.mono (by decide)) tk (pa_cons (pn 5) pa_nil)) pa_nil)) (nomark _)) (pss_one (ps_ret pe_bl)) pss_nil)))))
      (pss_cons (ps_set (i := 8) nd rfl (Or.inl rfl) (pe_fn D_law_any (hr.mono (by decide)) tk (pa_cons (pn 3) pa_nil)))
      (pss_cons (ps_set (i := 9) nd rfl (Or.inl rfl) (pe_op opMul (li_lst (la_cons li_str la_nil)) (pe_fn D_law_one_of (hr.mono (by decide)) tk (pa_cons (pn 3) (pa_cons (li_lst (la_cons li_int (la_cons li_int (la_cons li_int (la_cons li_int (la_cons li_int la_nil)))))) pa_nil)))))
      (pss_cons (ps_asg (pe_fn D_law_one_of (hr.mono (by decide)) tk (pa_cons (pn 3) (pa_cons (li_lst (la_cons li_str (la_cons li_str (la_cons li_str (la_cons li_str la_nil))))) pa_nil))) (pg_sub (pn 9) (pe_fn D_law_pick (hr.mono (by decide)) tk (pa_cons (pn 3) (pa_cons (pe_callB callLen (by rfl) B.len bt_len (pa_cons (pn 9) pa_nil)) pa_nil))) (setStore hu)))
      (pss_cons (ps_set (i := 10) nd rfl (Or.inl rfl) (pe_lst (pa_cons (pn 8) (pa_cons pe_str (pa_cons pe_str (pa_cons pe_str (pa_cons pe_str (pa_cons (pe_op opAdd (pe_op opMulS pe_str pe_int) pe_str) (pa_cons (pe_op opAdd (pe_op opMulS pe_str pe_int) pe_str) pa_nil)))))))))
      (pss_cons (ps_set (i := 10) nd rfl (Or.inl rfl) (pe_op opAdd (pn 10) (pe_lst (pa_cons (pe_join pe_str (pn 9)) (pa_cons (pe_join pe_str (pe_op opMul (li_lst (la_cons li_str la_nil)) pe_int)) pa_nil)))))
      (pss_cons (ps_set (i := 11) nd rfl (Or.inl rfl) pe_str)
      (pss_cons (ps_expr (pe_bm PySem.F.plainAttrs_list PySem.F.slot_list_append PySem.F.type_list_append mtAppend (pn 10) (pa_cons (pe_op opAdd (pe_op opAdd pe_str (pe_fn D_law_one_of (hr.mono (by decide)) tk (pa_cons (pn 3) (pa_cons (pn 11) pa_nil)))) pe_str) pa_nil)))
      (pss_cons (ps_set (i := 10) nd rfl (Or.inl rfl) (pe_op opAdd (pn 10) (pe_lst (pa_cons pe_str (pa_cons (pe_op opAdd pe_str (pe_op opMulS pe_str pe_int)) (pa_cons (pe_op opAdd pe_str (pe_op opMulS pe_str pe_int)) (pa_cons pe_str pa_nil)))))))
      (pss_one (ps_for po hc (pi_any (pe_op opAdd (pn 10) (li_lst (la_cons li_str (la_cons li_str la_nil))))) (pg_name (i := 12) nd rfl (Or.inl rfl)) (pss_cons (ps_set (i := 13) nd rfl (Or.inl rfl) (pe_callB (call_repr hG hu100) (by rfl) B.repr boot_repr (pa_cons (pn 12) pa_nil)))
      (pss_one (ps_if (PW.pt (pw_or (pt_cmpR (opNeS hu64) (pe_callB (call_repr hG hu100) (by rfl) B.repr boot_repr (pa_cons (pe_fn D_law_found (hr.mono (by decide)) tk (pa_cons (pn 12) pa_nil)) pa_nil)) (pe_callB (call_repr hG hu100) (by rfl) B.repr boot_repr (pa_cons (pe_fn D_law_history_of (hr.mono (by decide)) tk (pa_cons (pn 12) pa_nil)) pa_nil)) (nomark _)) (pw_or1 (pt_cmpR (opNeS hu64) (pe_callB (call_repr hG hu100) (by rfl) B.repr boot_repr (pa_cons (pn 12) pa_nil)) (pn 13) (nomark _))))) (pss_one (ps_ret pe_bl)) pss_nil))))))))))))))))
      (pss_one (ps_ret pe_bl))))), ?_⟩
  exact body_ok (pin := [0]) (bs := [true]) (k := 13) (mb := (mThen (mAsg (mC (enc (.list [(.str ""), (.str "1"), (.str "0"), (.str "01"), (.str "-0"), (.str "-5"), (.str "+1"), (.str "1000000"), (.str "1000001"), (.str "x"), (.str "hold"), (.str "lock"), (.str "begin")]))) (gmName 1))
  (mThen (mAsg (mOp pAdd true (mName 1) (mC (enc (.list [(.str "60"), (.str "61"), (.str "abcdefg")])))) (gmName 1))
  (mThen (mFor (mRange1 (mPrim pMax (mCons true (mC (.int (1))) (mCons true (mPrim pMin (mCons true (mC (.int (3))) (mCons true (mPrim pLen (mCons true (mName 0) mNil)) mNil))) mNil)))) (gmName 2) (mThen (mSet 3 (mCallR F_law_tape (mCons true (mName 0) (mCons true (mName 2) mNil))))
  (mThen (mFor (mRange1 (mC (.int (12)))) (gmName 4) (mThen (mAsg (mCallR F_law_deeds_text (mCons true (mFz (mLc [6] (mRange1 (mCallW [.io 3, .val] F_law_pick (mKNo 3 (mCons false (mC (.int (10))) mNil)))) (gmName 6) (mPure true) (mCallW [.io 3] F_law_some_deed (mKNo 3 mNil)))) mNil)) (gmName 5))
  (mThen (mFor (mRange1 (mOp pAdd false (mC (.int (1))) (mCallW [.io 3, .val] F_law_pick (mKNo 3 (mCons false (mC (.int (3))) mNil))))) (gmName 7) (mAsg (mCallW [.io 3, .val, .val] F_law_bent (mKNo 3 (mCons false (mName 5) (mCons false (mName 1) mNil)))) (gmName 5)))
  (mIf (mTest T.bool (mOp pNe true (mPrim pRepr (mCons true (mCallR F_law_found (mCons true (mName 5) mNil)) mNil)) (mPrim pRepr (mCons true (mCallR F_law_history_of (mCons true (mName 5) mNil)) mNil)))) (mRet (mC (.bl false))) .nx))))
  (mThen (mSet 8 (mCallW [.io 3] F_law_any (mKNo 3 mNil)))
  (mThen (mSet 9 (mOp pMul false (mC (enc (.list [(.str "begin")]))) (mCallW [.io 3, .val] F_law_one_of (mKNo 3 (mCons false (mC (enc (.list [(.int (59)), (.int (60)), (.int (61)), (.int (65)), (.int (70))]))) mNil)))))
  (mThen (mSetIL 9 (mCallW [.io 3, .val] F_law_pick (mKNo 3 (mCons false (mPrim pLen (mCons true (mName 9) mNil)) mNil))) (mCallW [.io 3, .val] F_law_one_of (mKNo 3 (mCons false (mC (enc (.list [(.str "start"), (.str "Begin"), (.str "save 1"), (.str "")]))) mNil))))
  (mThen (mSet 10 (mLst (mCons true (mName 8) (mCons true (mC (.str "
")) (mCons true (mC (.str " ")) (mCons true (mC (.str "begin
")) (mCons true (mC (.str "
begin")) (mCons true (mOp pAdd true (mOp pMulS true (mC (.str "begin
")) (mC (.int (60)))) (mC (.str "begin"))) (mCons true (mOp pAdd true (mOp pMulS true (mC (.str "clean
")) (mC (.int (59)))) (mC (.str "clean"))) mNil)))))))))
  (mThen (mSet 10 (mOp pAdd true (mName 10) (mLst (mCons true (mFz (mM1 pJoin (mC (.str "
")) (mName 9))) (mCons true (mFz (mM1 pJoin (mC (.str "
")) (mOp pMul true (mC (enc (.list [(.str "clean")]))) (mC (.int (65)))))) mNil)))))
  (mThen (mAsg (mC (.str " !\"#$&'()*+,-./0123456789:;<=>?@ABCDEFGHIJKLMNOPQRSTUVWXYZ[\\]^_`abcdefghijklmnopqrstuvwxyz{|}~")) (gmName 11))
  (mThen (mDrop (mMethN 10 fAppend (mCons true (mOp pAdd true (mOp pAdd false (mC (.str "lock 1 a")) (mCallW [.io 3, .val] F_law_one_of (mKNo 3 (mCons false (mName 11) mNil)))) (mC (.str "b hold"))) mNil)))
  (mThen (mSet 10 (mOp pAdd true (mName 10) (mLst (mCons true (mC (.str "save 1_0")) (mCons true (mOp pAdd true (mC (.str "save ")) (mOp pMulS true (mC (.str "9")) (mC (.int (5000))))) (mCons true (mOp pAdd true (mC (.str "change 1 x change -")) (mOp pMulS true (mC (.str "9")) (mC (.int (5000))))) (mCons true (mC (.str "horizon 3	")) mNil)))))))
  (mFor (mItV (mOp pAdd true (mName 10) (mC (enc (.list [(.str "change 1 x change 7_0"), (.str "begin	clean")]))))) (gmName 12) (mThen (mSet 13 (mPrim pRepr (mCons true (mName 12) mNil)))
  (mIf (mBr (mTest T.bool (mOp pNe true (mPrim pRepr (mCons true (mCallR F_law_found (mCons true (mName 12) mNil)) mNil)) (mPrim pRepr (mCons true (mCallR F_law_history_of (mCons true (mName 12) mNil)) mNil)))) (mPure true) (mTest T.bool (mOp pNe true (mPrim pRepr (mCons true (mName 12) mNil)) (mName 13)))) (mRet (mC (.bl false))) .nx))))))))))))))
  (mRet (mC (.bl true))))))) (show SS ⟨c.base, [0], L2.start ["_law_script", "_law_odd", "_law_start", "_law_tape_here", "_law_turn", "_law_text", "_law_k", "_law_change", "_law_value_here", "_law_long", "_law_cases", "_law_signs", "_law_one", "_law_seen"] vs⟩ (fun cls d _ H => E cls d H) _ _ from (SS.seq (SS.asg sv_lit (SG.name 1 (show 1 ∉ ([0] : List Nat) by decide)))
      (SS.seq (SS.asg (SV.op pr_add sv_name sv_lit) (SG.name 1 (show 1 ∉ ([0] : List Nat) by decide)))
      (SS.seq (SS.for_ (SI.range1 (SV.cb pr_max (SA.cons (sv_c fun _ _ _ => .int _) (SA.cons (SV.cb pr_min (SA.cons (sv_c fun _ _ _ => .int _) (SA.cons (SV.cb pr_len (SA.cons sv_name SA.nil)) SA.nil))) SA.nil)))) (SG.name 2 (show 2 ∉ ([0] : List Nat) by decide)) (SS.seq (SS.set 3 (show 3 ∉ ([0] : List Nat) by decide) (SV.callR ln_law_tape (SA.cons sv_name (SA.cons sv_name SA.nil))))
      (SS.seq (SS.for_ (SI.range1 (sv_c fun _ _ _ => .int _)) (SG.name 4 (show 4 ∉ ([0] : List Nat) by decide)) (SS.seq (SS.asg (SV.callR ln_law_deeds_text (SA.cons (SV.fz (SV.lc (vs := [6]) (SI.range1 (SV.callW ln_law_pick (SK.io 3 (SK.val (sv_c fun _ _ _ => .int _) SK.nil)))) (fun _ _ => (SG.name 6 (but_not (by decide)))) st_yes (SV.callW ln_law_some_deed (SK.io 3 SK.nil)))) SA.nil)) (SG.name 5 (show 5 ∉ ([0] : List Nat) by decide)))
      (SS.seq (SS.for_ (SI.range1 (SV.op pr_add (sv_c fun _ _ _ => .int _) (SV.callW ln_law_pick (SK.io 3 (SK.val (sv_c fun _ _ _ => .int _) SK.nil))))) (SG.name 7 (show 7 ∉ ([0] : List Nat) by decide)) (SS.asg (SV.callW ln_law_bent (SK.io 3 (SK.val sv_name (SK.val sv_name SK.nil)))) (SG.name 5 (show 5 ∉ ([0] : List Nat) by decide))))
      (SS.ifs (SV.test (SV.op pr_ne (SV.cb pr_repr (SA.cons (SV.callR ln_law_found (SA.cons sv_name SA.nil)) SA.nil)) (SV.cb pr_repr (SA.cons (SV.callR ln_law_history_of (SA.cons sv_name SA.nil)) SA.nil)))) (SS.ret (sv_c fun _ _ _ => .bl _)) SS.next))))
      (SS.seq (SS.set 8 (show 8 ∉ ([0] : List Nat) by decide) (SV.callW ln_law_any (SK.io 3 SK.nil)))
      (SS.seq (SS.set 9 (show 9 ∉ ([0] : List Nat) by decide) (SV.op pr_mul sv_lit (SV.callW ln_law_one_of (SK.io 3 (SK.val sv_lit SK.nil)))))
      (SS.seq (SS.setIL (SV.callW ln_law_pick (SK.io 3 (SK.val (SV.cb pr_len (SA.cons sv_name SA.nil)) SK.nil))) (SV.callW ln_law_one_of (SK.io 3 (SK.val sv_lit SK.nil))))
      (SS.seq (SS.set 10 (show 10 ∉ ([0] : List Nat) by decide) (SV.lst (SA.cons sv_name (SA.cons (sv_c fun _ _ _ => .str _) (SA.cons (sv_c fun _ _ _ => .str _) (SA.cons (sv_c fun _ _ _ => .str _) (SA.cons (sv_c fun _ _ _ => .str _) (SA.cons (SV.op pr_add (SV.op pr_mulS (sv_c fun _ _ _ => .str _) (sv_c fun _ _ _ => .int _)) (sv_c fun _ _ _ => .str _)) (SA.cons (SV.op pr_add (SV.op pr_mulS (sv_c fun _ _ _ => .str _) (sv_c fun _ _ _ => .int _)) (sv_c fun _ _ _ => .str _)) SA.nil)))))))))
      (SS.seq (SS.set 10 (show 10 ∉ ([0] : List Nat) by decide) (SV.op pr_add sv_name (SV.lst (SA.cons (SV.fz (SV.met1 pr_join (sv_c fun _ _ _ => .str _) sv_name)) (SA.cons (SV.fz (SV.met1 pr_join (sv_c fun _ _ _ => .str _) (SV.op pr_mul sv_lit (sv_c fun _ _ _ => .int _)))) SA.nil)))))
      (SS.seq (SS.asg (sv_c fun _ _ _ => .str _) (SG.name 11 (show 11 ∉ ([0] : List Nat) by decide)))
      (SS.seq (SS.drop (SV.methN mu_append (SA.cons (SV.op pr_add (SV.op pr_add (sv_c fun _ _ _ => .str _) (SV.callW ln_law_one_of (SK.io 3 (SK.val sv_name SK.nil)))) (sv_c fun _ _ _ => .str _)) SA.nil)))
      (SS.seq (SS.set 10 (show 10 ∉ ([0] : List Nat) by decide) (SV.op pr_add sv_name (SV.lst (SA.cons (sv_c fun _ _ _ => .str _) (SA.cons (SV.op pr_add (sv_c fun _ _ _ => .str _) (SV.op pr_mulS (sv_c fun _ _ _ => .str _) (sv_c fun _ _ _ => .int _))) (SA.cons (SV.op pr_add (sv_c fun _ _ _ => .str _) (SV.op pr_mulS (sv_c fun _ _ _ => .str _) (sv_c fun _ _ _ => .int _))) (SA.cons (sv_c fun _ _ _ => .str _) SA.nil)))))))
      (SS.for_ (SI.any (SV.op pr_add sv_name sv_lit)) (SG.name 12 (show 12 ∉ ([0] : List Nat) by decide)) (SS.seq (SS.set 13 (show 13 ∉ ([0] : List Nat) by decide) (SV.cb pr_repr (SA.cons sv_name SA.nil)))
      (SS.ifs (ST.or (SV.test (SV.op pr_ne (SV.cb pr_repr (SA.cons (SV.callR ln_law_found (SA.cons sv_name SA.nil)) SA.nil)) (SV.cb pr_repr (SA.cons (SV.callR ln_law_history_of (SA.cons sv_name SA.nil)) SA.nil)))) (SV.test (SV.op pr_ne (SV.cb pr_repr (SA.cons sv_name SA.nil)) sv_name))) (SS.ret (sv_c fun _ _ _ => .bl _)) SS.next))))))))))))))
      (SS.ret (sv_c fun _ _ _ => .bl _)))))) (by decide) rfl h
end
end Rm
namespace Rm
open PySem PySem.Spec L2
open PyProof.Rows hiding St
local macro_rules | `(tactic| simp_all! only [$ts,*]) => `(tactic| simp only [w_def, w_thenS, w_if, w_test, w_bool, w_op, w_prim, w_cons, w_nil, w_name, w_c, w_pure, w_br, w_seqT, w_lst, w_chain, w_part, w_pureO, w_slice, w_drop, w_ret, w_retN, w_set, w_move, w_raise, w_asg, w_parN, w_par, w_plName, w_plFld, w_setF, w_setI, w_ddel, w_safe, w_callW, w_kNo, w_kLw, w_callR, w_methR, w_methW, w_methWK, w_nx, w_bk, w_ct, w_rt, w_ok, w_err, w_oerr, gmName, List.length_cons, List.length_nil, List.replicate, List.cons_append, List.nil_append, List.getElem?_cons_zero, List.getElem?_cons_succ, List.set_cons_zero, List.set_cons_succ, List.map_cons, List.map_nil, rdW_own, rdW_vw, mvW_own, Bool.true_or, Bool.false_or, Bool.or_true, true_and, and_true, t_own, t_vw, h_own, keep_own, fz_own, oW_some, oW_ite, bW_some, tW_some, tW_ite, T.bool, Option.map_some, finP, setN, Nat.zero_lt_succ, Nat.reduceLT, Nat.reduceAdd, Nat.reduceLeDiff, getK_hd, id_eq, prep, back, sfW, Bool.and_true, Bool.true_and, decide_true, decide_eq_true_eq, if_true, if_false, ite_true, ite_false, Bool.false_eq_true, eq_self, $ts,*])
def tapeT (d m : Int) : T := .dct true [(.inr "digits", .int d), (.inr "mixed", .int m)]
theorem kDM' : ¬ ((.inr "digits" : Key) = .inr "mixed") := fun z => kDM (Sum.inr.inj z)
theorem tape_gm {d m : Int} : getK [((.inr "digits" : Key), T.int d), (.inr "mixed", T.int m)] (.inr "mixed") = some (.int m) := by rw [getK_tl kDM', getK_hd]
theorem tape_sd {d m d' : Int} : putT [((.inr "digits" : Key), T.int d), (.inr "mixed", T.int m)] (.inr "digits") (.int d') = [(.inr "digits", .int d'), (.inr "mixed", .int m)] := by unfold putT; rw [if_pos rfl]
theorem tape_sm {d m d' : Int} : putT [((.inr "digits" : Key), T.int d), (.inr "mixed", T.int m)] (.inr "mixed") (.int d') = [(.inr "digits", .int d), (.inr "mixed", .int d')] := by
  unfold putT; rw [if_neg kDM']; unfold putT; rw [if_pos rfl]
theorem pick_ok {d m n : Int} (hm : 0 ≤ m ∧ m < 2 ^ 32) (hn : 0 < n ∧ n < 2 ^ 30) {Q : Ent → List Ent → Prop} {E : EK} (k : ∀ r d' m', (0 ≤ r ∧ r < n) → (0 ≤ m' ∧ m' < 2 ^ 32) → Q (.own (.int r)) [.own (tapeT d' m'), .own (.int n)]) : (F_law_pick [.own (tapeT d m), .own (.int n)]).w Q E := by
  obtain ⟨hm0, hm1⟩ := hm
  obtain ⟨hn0, hn1⟩ := hn
  unfold F_law_pick tapeT
  simp_all! only [pItem, itemT, T.key, pGe, tape_gm, tape_sd, tape_sm, pInt, pMod, pDiv, pMul, pAdd, pPow, setIx]
  refine ite2 (fun hd => ?_) (fun hd => ?_)
  · exact ⟨hn0, ⟨hn0, by omega⟩, two_lt_line (by decide), k _ _ _ ⟨Int.emod_nonneg _ (by omega), Int.emod_lt_of_pos _ hn0⟩ ⟨hm0, hm1⟩⟩
  · have h0 : 0 ≤ (m * 40014 + 1017) % 2147483563 := Int.emod_nonneg _ (by decide)
    have h1 : (m * 40014 + 1017) % 2147483563 < 2147483563 := Int.emod_lt_of_pos _ (by decide)
    generalize (m * 40014 + 1017) % 2147483563 = m1 at h0 h1 ⊢
    have g0 : 0 ≤ m1 ^ Int.toNat 2 % 2147483399 := Int.emod_nonneg _ (by decide)
    have g1 : m1 ^ Int.toNat 2 % 2147483399 < 2147483399 := Int.emod_lt_of_pos _ (by decide)
    generalize m1 ^ Int.toNat 2 % 2147483399 = o at g0 g1 ⊢
    have hb := bits_small (i := m1) (by omega)
    have hb2 := bits_small (i := o) (by omega)
    refine ⟨?_, by decide, two_lt_line (by decide), ⟨by decide, by omega⟩, by decide, ⟨by decide, by omega⟩, by decide, ⟨by decide, by decide⟩, hn0, k _ _ _ ⟨Int.emod_nonneg _ (by omega), Int.emod_lt_of_pos _ hn0⟩ ⟨h0, by omega⟩⟩
    simp only [mulB, Bool.or_eq_true, decide_eq_true_eq]
    exact Or.inl (Or.inl (PySem.intBits_le_64 (by omega) (by omega)))
/-- a tape -/
def IsTape (t : T) : Prop := ∃ d m, t = tapeT d m ∧ 0 ≤ m ∧ m < 2 ^ 32
theorem pick_t {t : T} {n : Int} (ht : IsTape t) (hn : 0 < n ∧ n < 2 ^ 30) {Q : Ent → List Ent → Prop} {E : EK} (k : ∀ r t', (0 ≤ r ∧ r < n) → IsTape t' → Q (.own (.int r)) [.own t', .own (.int n)]) : (F_law_pick [.own t, .own (.int n)]).w Q E := by
  obtain ⟨d, m, rfl, hm⟩ := ht
  exact pick_ok hm hn fun r d' m' hr hm' => k r _ hr ⟨d', m', rfl, hm'⟩
/-- one of some items, frozen -/
theorem one_of_t {t : T} {ts : List T} (ht : IsTape t) (hl : 0 < ts.length ∧ ts.length < 1000) (hf : T.isFA ts = true) {Q : Ent → List Ent → Prop} {E : EK} (k : ∀ u t' e, u ∈ ts → u.isF = true → IsTape t' → Q (.vw u) [.own t', e]) : (F_law_one_of [.own t, .own (.lst false ts)]).w Q E := by
  unfold F_law_one_of
  simp_all! only [pLen, T.isF, Ent.held, hf, Bool.not_false]
  refine pick_t (n := (ts.length : Int)) ht ⟨by omega, by omega⟩ fun r t' hr ht' => ?_
  simp_all! only [pItem, itemT]
  obtain ⟨n, rfl⟩ := Int.eq_ofNat_of_zero_le hr.1
  have hn : n < ts.length := by omega
  rw [atI_nat (List.getElem?_eq_getElem hn)]
  exact k _ _ _ (List.getElem_mem hn) (T.isFA_mem hf (List.getElem_mem hn)) ht'
theorem isFA_ints : ∀ ns : List Int, T.isFA (ns.map T.int) = true
  | [] => rfl
  | n :: ns => by rw [List.map_cons, T.isFA, isFA_ints ns]; rfl
theorem tape_t {ns : List Int} {st : Int} (h0 : 0 ≤ st ∧ st < 3) (hl : ns.length < 1000) (hb : ∀ z ∈ ns, Builtin.Int.intBits z ≤ 1048576) {Q : Ent → List Ent → Prop} {E : EK} (k : ∀ t r, IsTape t → Q (.own t) r) : (F_law_tape [.own (.scr (ns.map T.int)), .own (.int st)]).w Q E := by
  unfold F_law_tape
  simp_all! only [w_for, w_itV, pAdd, pMul, Ent.fz, T.isF, T.items, isFA_ints]
  refine ⟨?_, ?_⟩
  · simp only [mulB, Bool.or_eq_true, decide_eq_true_eq]
    exact Or.inl (Or.inl (PySem.intBits_le_64 (by omega) (by omega)))
  refine forM_w (fun ts ρ => ∃ ms m r, ts = ms.map T.int ∧ (∀ z ∈ ms, z ∈ ns) ∧ (0 ≤ m ∧ m < 2147483565) ∧ ρ = [.own (.scr (ns.map T.int)), .own (.int st), .own (.int m), r, .no]) (fun ρ h => ?_) (fun x ts ρ h => ?_) _ _ ⟨ns, _, _, rfl, fun _ q => q, by omega, rfl⟩
  · obtain ⟨ms, m, r, h1, h2, h3, rfl⟩ := h
    simp_all! only [pLen, pLt, w_disp, w_dCons, w_dNil, keepP, T.key, Ent.held, Ent.keep, T.isF]
    have hnd : [(Sum.inr (Str.ofString "digits") : Key), Sum.inr (Str.ofString "mixed")].Nodup := by decide
    refine ite2 (fun hlt => ?_) (fun _ => ⟨hnd, k _ _ ⟨0, m, rfl, by omega⟩⟩)
    rw [List.length_map] at hlt
    have ei : ∃ z, atI (ns.map T.int) st = some (T.int z) := by
      obtain ⟨n, rfl⟩ := Int.eq_ofNat_of_zero_le h0.1
      have hn : n < ns.length := by omega
      exact ⟨ns[n], atI_nat (by rw [List.getElem?_map, List.getElem?_eq_getElem hn]; rfl)⟩
    obtain ⟨z, ei⟩ := ei
    simp_all! only [pItem, itemT, ei, pPow, pGe, pSub, T.isF]
    refine ⟨⟨by decide, by decide⟩, ite2 (fun _ => ?_) (fun _ => ?_)⟩
    · exact ⟨⟨by decide, by decide⟩, hnd, k _ _ ⟨_, m, rfl, by omega⟩⟩
    · exact ⟨hnd, k _ _ ⟨0, m, rfl, by omega⟩⟩
  · obtain ⟨ms, m, r, h1, h2, h3, rfl⟩ := h
    cases ms with
    | nil => exact nomatch h1
    | cons z ms =>
      rw [List.map_cons] at h1
      obtain ⟨rfl, rfl⟩ := List.cons.inj h1
      simp_all! only [gmName, pAdd, pMul, pPow, pInt, pMod]
      have hz := hb z (h2 z List.mem_cons_self)
      refine ⟨?_, ?_, ⟨by decide, tape_bits h3 hz⟩, by decide, ms, _, _, rfl, fun y q => h2 y (List.mem_cons_of_mem _ q), ?_, rfl⟩
      · simp only [mulB, Bool.or_eq_true, decide_eq_true_eq]
        exact Or.inl (Or.inl (PySem.intBits_le_64 (by omega) (by omega)))
      · simp only [mulB, Bool.or_eq_true, decide_eq_true_eq]
        right; omega
      · have g0 : 0 ≤ (m * 30013 + z * z + 11) ^ Int.toNat 2 % 2147483563 := Int.emod_nonneg _ (by decide)
        have g1 : (m * 30013 + z * z + 11) ^ Int.toNat 2 % 2147483563 < 2147483563 := Int.emod_lt_of_pos _ (by decide)
        omega
end Rm
namespace Rm
open PySem PySem.Spec L2
open PyProof.Rows hiding St
def T.pl : T → Bool
  | .dtp _ _ _ => false
  | .ins _ _ _ => false
  | .scr _ => false
  | _ => true
def T.iI : T → Bool
  | .int _ => true
  | .bl _ => true
  | _ => false
theorem isFA_all : ∀ {ts : List T}, (∀ u ∈ ts, u.isF = true) → T.isFA ts = true
  | [], _ => rfl
  | t :: ts, h => by rw [T.isFA, h t List.mem_cons_self, isFA_all fun u q => h u (List.mem_cons_of_mem _ q)]; rfl
/-- a tree with a short text -/
def FineT (n k : Nat) (t : T) : Prop := ∃ d, t.data = some d ∧ Fine n k d
/-- its text -/
def T.sh (t : T) : Str := match t.data with
  | some d => d.shown
  | none => Str.empty
theorem repr_t {n k : Nat} {t : T} (h : FineT n k t) (hn : n ≤ 2000000) (hk : k ≤ 60) : pRepr [t] = some (.own (.str t.sh)) := by
  obtain ⟨d, e, h⟩ := h
  unfold pRepr T.sh
  dsimp only
  rw [e]
  dsimp only
  rw [if_pos (h.shows (Nat.le_trans hn size_big) hk)]
theorem fineT_A {n k : Nat} : ∀ {ts : List T}, (∀ t ∈ ts, FineT n k t) → ∃ ds, T.dataA ts = some ds ∧ ds.length = ts.length ∧ ∀ d ∈ ds, Fine n k d
  | [], _ => ⟨[], rfl, rfl, fun _ q => nomatch q⟩
  | t :: ts, h => by
    obtain ⟨d, e, f⟩ := h t List.mem_cons_self
    obtain ⟨ds, e2, l, f2⟩ := fineT_A fun u q => h u (List.mem_cons_of_mem _ q)
    refine ⟨d :: ds, by unfold T.dataA; rw [e, e2], by simp [l], fun x q => ?_⟩
    rcases List.mem_cons.mp q with rfl | q
    · exact f
    · exact f2 x q
theorem fineT_tup {n k m : Nat} {ts : List T} (h : ∀ t ∈ ts, FineT n k t) (hl : ts.length ≤ m) : FineT (m * (n + 2) + 4) (k + 1) (.tup ts) := by
  obtain ⟨ds, e, l, f⟩ := fineT_A h
  exact ⟨.tuple ds, by unfold T.data; rw [e], fine_tup f (by omega)⟩
theorem fineT_lst {n k m : Nat} {o : Bool} {ts : List T} (h : ∀ t ∈ ts, FineT n k t) (hl : ts.length ≤ m) : FineT (m * (n + 2) + 4) (k + 1) (.lst o ts) := by
  obtain ⟨ds, e, l, f⟩ := fineT_A h
  exact ⟨.list ds, by unfold T.data; rw [e], fine_list f (by omega)⟩
theorem FineT.mono {n k n' k' : Nat} {t : T} (h : FineT n k t) (hn : n ≤ n') (hk : k ≤ k') : FineT n' k' t := let ⟨d, e, f⟩ := h; ⟨d, e, f.mono hn hk⟩
theorem fineT_int {i : Int} (h0 : -(2 ^ 200) < i) (h1 : i < 2 ^ 200) : FineT 2000 5 (.int i) := ⟨.int i, rfl, fine_int h0 h1⟩
def fineTB (n k : Nat) (t : T) : Bool := match t.data with
  | some d => fineB n k d
  | none => false
theorem fineTB_ok {n k : Nat} {t : T} (h : fineTB n k t = true) : FineT n k t := by
  unfold fineTB at h
  split at h
  · rename_i d e; exact ⟨d, e, h⟩
  · exact nomatch h
theorem ne_str {x : Str} : pNe [.str x, .str x] = some (.own (.bl false)) := by
  unfold pNe
  simp
/-- what may be asked for -/
structure Askd (t : T) : Prop where
  pl : t.pl = true
  fz : t.isF = true
  sh : FineT 9000 5 t
theorem Askd.int {n : Int} (h : -(2 ^ 31) < n ∧ n < 2 ^ 31) : Askd (.int n) := ⟨rfl, rfl, (fineT_int (by omega) (by omega)).mono (by omega) (by omega)⟩
theorem eq_str {x : Str} : pEq2 [.str x, .str x] = some (.own (.bl true)) := by
  simp [pEq2, eqT, oB]
theorem eq_ints {a b : Int} : pEq2 [.int a, .int b] = some (.own (.bl (decide (a = b)))) := by
  have hs : ∀ n, SeqAt.shaped (.int n) = true := fun n => by simp only [SeqAt.shaped, PyData.canLay0, PyData.depth]; rfl
  have he : PyData.eqv (.int a) (.int b) = decide (a = b) := by
    simp only [PyData.eqv]; rfl
  simp only [pEq2, eqT, eqT0, T.data, hs, Bool.and_self, if_true, he, oB]
theorem mem_range {n : Nat} {t : T} (h : t ∈ rangeT 0 n) : ∃ i : Int, t = .int i ∧ 0 ≤ i ∧ i < n := by
  obtain ⟨j, hj, rfl⟩ := List.mem_map.mp h
  have := List.mem_range.mp hj
  exact ⟨_, rfl, by omega, by omega⟩
end Rm
/-! Rm, part TC: steps for texts; cutting and joining. -/
namespace Rm
open PySem PySem.Spec L2
open PyProof.Rows hiding St
def T.asS : T → Option Str
  | .str a => some a
  | _ => none
section
variable {p : List T → Option Ent} {m m1 m2 : List Ent → R Ent} {ms : List Ent → R (List Ent)} {ρ : List Ent} {Q : Ent → List Ent → Prop} {E : EK}
theorem w_m1 : (mM1 p m1 m2 ρ).w Q E = (m1 ρ).w (fun e ρ1 => tW e.t.asS fun a => (m2 ρ1).w (fun e2 ρ2 => tW (p [.str a, e2.t]) fun x => Q x ρ2) E) E := by
  unfold mM1
  rw [w_bind]
  congr 1
  funext e ρ1
  cases e.t with
  | str a =>
    dsimp only [T.asS, tW]
    rw [w_bind]
    congr 1
    funext e2 ρ2
    cases p [.str a, e2.t] <;> rfl
  | _ => rfl
theorem w_m0 : (mM0 p m1 ρ).w Q E = (m1 ρ).w (fun e ρ1 => tW e.t.asS fun a => tW (p [.str a]) fun x => Q x ρ1) E := by
  unfold mM0
  rw [w_bind]
  congr 1
  funext e ρ1
  cases e.t with
  | str a => dsimp only [T.asS, tW]; cases p [.str a] <;> rfl
  | _ => rfl
theorem w_star {Q : List Ent → List Ent → Prop} : (mStar m ms ρ).w Q E = (m ρ).w (fun e ρ1 => tW (starI e.t) fun us => (ms ρ1).w (fun es ρ2 => Q (us.map Ent.own ++ es) ρ2) E) E := by
  unfold mStar
  rw [w_bind]
  congr 1
  funext e ρ1
  cases starI e.t with
  | none => rfl
  | some us => dsimp only [tW]; rw [w_bind]; rfl
theorem w_enV {Q : List T → List Ent → Prop} : (mEnV m ρ).w Q E = (m ρ).w (fun e ρ1 => tW (match e.fz with | some (.lst _ ts) => some ts | _ => none) fun ts => Q (enumT 0 ts) ρ1) E := by
  unfold mEnV
  rw [w_bind]
  congr 1
  funext e ρ1
  cases h : e.fz with
  | none => rfl
  | some t => cases t <;> rfl
end
/-! ### cutting and joining -/
theorem str_ext {a b : Str} (h : a.cps.toList = b.cps.toList) : a = b := by
  cases a; cases b
  congr 1
  exact Array.toList_inj.mp h
theorem app_tl (a b : Str) : (a ++ b).cps.toList = a.cps.toList ++ b.cps.toList := by
  show (a.cps ++ b.cps).toList = _
  exact Array.toList_append
theorem join_eq (s : Str) (l : List Str) : Txt.join s l = Str.join s l := StrLaws.glued_eq_join s l
theorem split_ne (x y : Str) : Txt.split x y ≠ [] := fun h => by
  have := split_pos x y
  rw [h] at this
  simp at this
theorem join_len (s : Str) (l : List Str) : (Txt.join s l).length ≤ (l.map (·.length)).sum + l.length * s.length := by
  rw [join_eq]; exact StrLaws.join_length_le s l
theorem sum_le {n : Nat} : ∀ {l : List Nat}, (∀ x ∈ l, x ≤ n) → l.sum ≤ l.length * n
  | [], _ => by simp
  | x :: l, h => by
    have h1 := h x List.mem_cons_self
    have h2 := sum_le (l := l) fun y q => h y (List.mem_cons_of_mem _ q)
    simp only [List.sum_cons, List.length_cons, Nat.succ_mul]
    omega
end Rm
/-! Rm, part TF: cutting at ", ". -/
/-! Rm, part TD: == and != of equal trees. -/
namespace Rm
open PySem PySem.Spec L2
open PyProof.Rows hiding St
/-! ### equal trees -/
mutual
def T.ly : T → Bool
  | .non | .bl _ | .int _ => true
  | .str x => PyData.strOk x
  | .tup ts => T.lyA ts
  | .lst _ ts => T.lyA ts
  | _ => false
def T.lyA : List T → Bool
  | [] => true
  | t :: ts => T.ly t && T.lyA ts
end
mutual
def T.dp : T → Nat
  | .tup ts => T.dpA ts + 1
  | .lst _ ts => T.dpA ts + 1
  | _ => 0
def T.dpA : List T → Nat
  | [] => 0
  | t :: ts => max (T.dp t) (T.dpA ts)
end
mutual
theorem T.ly_ok : ∀ {t : T}, t.ly = true → ∃ d, t.data = some d ∧ PyData.canLay0 d = true ∧ d.depth ≤ t.dp
  | .non, _ => ⟨_, rfl, rfl, by simp [PyData.depth]⟩
  | .bl _, _ => ⟨_, rfl, rfl, by simp [PyData.depth]⟩
  | .int _, _ => ⟨_, rfl, rfl, by simp [PyData.depth]⟩
  | .str x, h => ⟨_, rfl, by simpa [T.ly, PyData.canLay0] using h, by simp [PyData.depth]⟩
  | .tup ts, h => by
    obtain ⟨ds, h1, h2, h3⟩ := T.lyA_ok (show T.lyA ts = true from by simpa [T.ly] using h)
    exact ⟨.tuple ds, by simp [T.data, h1], by simpa [PyData.canLay0] using h2, by simp only [PyData.depth, T.dp]; omega⟩
  | .lst o ts, h => by
    obtain ⟨ds, h1, h2, h3⟩ := T.lyA_ok (show T.lyA ts = true from by simpa [T.ly] using h)
    exact ⟨.list ds, by simp [T.data, h1], by simpa [PyData.canLay0] using h2, by simp only [PyData.depth, T.dp]; omega⟩
  | .dct _ _, h => by simp [T.ly] at h
  | .dtp _ _ _, h => by simp [T.ly] at h
  | .ins _ _ _, h => by simp [T.ly] at h
  | .scr _, h => by simp [T.ly] at h
theorem T.lyA_ok : ∀ {ts : List T}, T.lyA ts = true → ∃ ds, T.dataA ts = some ds ∧ PyData.canLayAll0 ds = true ∧ PyData.depthAll ds ≤ T.dpA ts
  | [], _ => ⟨[], rfl, rfl, by simp [PyData.depthAll]⟩
  | t :: ts, h => by
    simp only [T.lyA, Bool.and_eq_true] at h
    obtain ⟨d, h1, h2, h3⟩ := T.ly_ok h.1
    obtain ⟨ds, h4, h5, h6⟩ := T.lyA_ok h.2
    refine ⟨d :: ds, by simp [T.dataA, h1, h4], by simp [PyData.canLayAll0, h2, h5], ?_⟩
    simp only [PyData.depthAll, T.dpA]
    omega
end
theorem lyA_all {ts : List T} (h : ∀ t ∈ ts, t.ly = true) : T.lyA ts = true := by
  induction ts with
  | nil => rfl
  | cons t ts ih => simp only [T.lyA, h t List.mem_cons_self, ih fun x q => h x (List.mem_cons_of_mem _ q), Bool.and_self]
theorem dpA_all {k : Nat} {ts : List T} (h : ∀ t ∈ ts, t.dp ≤ k) : T.dpA ts ≤ k := by
  induction ts with
  | nil => exact Nat.zero_le _
  | cons t ts ih =>
    have h1 := h t List.mem_cons_self
    have h2 := ih fun x q => h x (List.mem_cons_of_mem _ q)
    simp only [T.dpA]
    omega
theorem shaped_ly {t : T} (h : t.ly = true) (hd : t.dp ≤ 64) : ∃ d, t.data = some d ∧ PyData.canLay0 d = true ∧ SeqAt.shaped d = true := by
  obtain ⟨d, h1, h2, h3⟩ := T.ly_ok h
  refine ⟨d, h1, h2, ?_⟩
  unfold SeqAt.shaped
  rw [h2, decide_eq_true (Nat.le_trans h3 hd)]
  rfl
theorem eqv_tn {d : PyData} {ds : List PyData} : PyData.eqv (.tuple (d :: ds)) (.tuple []) = false := by simp [PyData.eqv, PyData.eqvAll]
/-- a tuple with something in it is not () -/
theorem eq_tnil {t : T} {ts : List T} (h : T.lyA (t :: ts) = true) (hd : T.dpA (t :: ts) ≤ 60) : pEq2 [.tup (t :: ts), .tup []] = some (.own (.bl false)) := by
  obtain ⟨d, h1, h2, h3⟩ := shaped_ly (t := .tup (t :: ts)) (by simpa [T.ly] using h) (by simp only [T.dp]; omega)
  have h4 : T.data (.tup []) = some (.tuple []) := by simp [T.data, T.dataA]
  have h5 : SeqAt.shaped (.tuple []) = true := by decide +kernel
  have h6 : PyData.eqv d (.tuple []) = false := by
    unfold T.data at h1
    split at h1
    · rename_i ds q
      cases h1
      unfold T.dataA at q
      split at q
      · cases q; exact eqv_tn
      · cases q
    · cases h1
  show (match eqT (.tup (t :: ts)) (.tup []) with | some k => oB k | none => _) = _
  have h7 : eqT (.tup (t :: ts)) (.tup []) = some false := by
    show eqT0 _ _ = _
    unfold eqT0
    rw [h1, h4]
    simp only [h3, h5, Bool.and_self, if_true, h6]
  rw [h7]
end Rm
/-! Rm, part TE: len(set(xs)) of a list of tuples of whole numbers and texts. -/
/-! Rm, part TG: enumerate of a tuple. -/
namespace PySem
open Sem (wp)
open AutoSeq1 (wpAny_loadPart')
end PySem
namespace Rm
open PySem PySem.Spec L2
open PyProof.Rows hiding St
local macro_rules | `(tactic| simp_all! only [$ts,*]) => `(tactic| simp only [w_def, w_thenS, w_if, w_test, w_bool, w_op, w_prim, w_cons, w_nil, w_name, w_c, w_pure, w_br, w_seqT, w_lst, w_chain, w_part, w_pureO, w_slice, w_drop, w_ret, w_retN, w_set, w_move, w_raise, w_asg, w_parN, w_par, w_plName, w_plFld, w_setF, w_setI, w_ddel, w_safe, w_callW, w_kNo, w_kLw, w_callR, w_methR, w_methW, w_methWK, w_nx, w_bk, w_ct, w_rt, w_ok, w_err, w_oerr, gmName, List.length_cons, List.length_nil, List.replicate, List.cons_append, List.nil_append, List.getElem?_cons_zero, List.getElem?_cons_succ, List.set_cons_zero, List.set_cons_succ, List.map_cons, List.map_nil, rdW_own, rdW_vw, mvW_own, Bool.true_or, Bool.false_or, Bool.or_true, true_and, and_true, t_own, t_vw, h_own, keep_own, fz_own, oW_some, oW_ite, bW_some, tW_some, tW_ite, T.bool, Option.map_some, finP, setN, Nat.zero_lt_succ, Nat.reduceLT, Nat.reduceAdd, Nat.reduceLeDiff, getK_hd, id_eq, prep, back, sfW, Bool.and_true, Bool.true_and, decide_true, decide_eq_true_eq, if_true, if_false, ite_true, ite_false, Bool.false_eq_true, eq_self, $ts,*])
theorem lt_line {n : Nat} (h : n ≤ 100000) : n < sizeLine := Nat.lt_of_le_of_lt h (by decide)
theorem le_line {n : Nat} (h : n ≤ 100000) : n ≤ sizeLine := Nat.le_trans h (by decide)
theorem eqvA_str : ∀ {xs ys : List Str}, PyData.eqvAll (xs.map PyData.str) (ys.map PyData.str) = decide (xs = ys)
  | [], [] => by simp [PyData.eqvAll]
  | [], _ :: _ => by simp [PyData.eqvAll]
  | _ :: _, [] => by simp [PyData.eqvAll]
  | x :: xs, y :: ys => by
    simp only [List.map_cons, PyData.eqvAll, PyData.eqv, eqvA_str (xs := xs) (ys := ys), List.cons.injEq]
    by_cases h : x = y
    · subst h; simp
    · simp [h]
theorem strs_dataA : ∀ xs : List Str, T.dataA (xs.map T.str) = some (xs.map PyData.str)
  | [] => rfl
  | x :: xs => by rw [List.map_cons, List.map_cons]; unfold T.dataA; rw [strs_dataA xs]; rfl
theorem strs_sh {xs : List Str} (h : ∀ x ∈ xs, PyData.strOk x = true) : SeqAt.shaped (.list (xs.map PyData.str)) = true := by
  have h1 : T.lyA (xs.map T.str) = true := lyA_all fun t q => by
    obtain ⟨x, hx, rfl⟩ := List.mem_map.mp q
    exact h x hx
  have h2 : T.dpA (xs.map T.str) ≤ 0 := dpA_all fun t q => by
    obtain ⟨x, hx, rfl⟩ := List.mem_map.mp q
    exact Nat.le_refl _
  obtain ⟨d, e1, e2, e3⟩ := shaped_ly (t := .lst true (xs.map T.str)) (by simpa [T.ly] using h1) (by simp only [T.dp]; omega)
  have : (T.lst true (xs.map T.str)).data = some (.list (xs.map PyData.str)) := by
    show (match T.dataA (xs.map T.str) with | some ds => some (PyData.list ds) | none => none) = _
    rw [strs_dataA]
  rw [this] at e1
  cases e1
  exact e3
theorem eq_strl {o o' : Bool} {xs ys : List Str} (h : ∀ x ∈ xs, PyData.strOk x = true) (h' : ∀ x ∈ ys, PyData.strOk x = true) : pEq2 [.lst o (xs.map T.str), .lst o' (ys.map T.str)] = some (.own (.bl (decide (xs = ys)))) := by
  have e1 : ∀ (o : Bool) (xs : List Str), (T.lst o (xs.map T.str)).data = some (.list (xs.map PyData.str)) := fun o xs => by
    show (match T.dataA (xs.map T.str) with | some ds => some (PyData.list ds) | none => none) = _
    rw [strs_dataA]
  have e2 : eqT (.lst o (xs.map T.str)) (.lst o' (ys.map T.str)) = some (decide (xs = ys)) := by
    show eqT0 _ _ = _
    unfold eqT0
    rw [e1, e1]
    simp only [strs_sh h, strs_sh h', Bool.and_self, if_true]
    show some (PyData.eqv (.list (xs.map PyData.str)) (.list (ys.map PyData.str))) = _
    rw [show PyData.eqv (.list (xs.map PyData.str)) (.list (ys.map PyData.str)) = PyData.eqvAll (xs.map PyData.str) (ys.map PyData.str) by simp only [PyData.eqv], eqvA_str]
  unfold pEq2
  simp only [e2]
theorem ne_strl {o o' : Bool} {xs ys : List Str} (h : ∀ x ∈ xs, PyData.strOk x = true) (h' : ∀ x ∈ ys, PyData.strOk x = true) : pNe [.lst o (xs.map T.str), .lst o' (ys.map T.str)] = some (.own (.bl (!decide (xs = ys)))) := by
  have e1 : ∀ (o : Bool) (xs : List Str), (T.lst o (xs.map T.str)).data = some (.list (xs.map PyData.str)) := fun o xs => by
    show (match T.dataA (xs.map T.str) with | some ds => some (PyData.list ds) | none => none) = _
    rw [strs_dataA]
  unfold pNe
  simp only [e1, strs_sh h, strs_sh h', Bool.and_self, if_true]
  show oB (!PyData.eqv (.list (xs.map PyData.str)) (.list (ys.map PyData.str))) = _
  rw [show PyData.eqv (.list (xs.map PyData.str)) (.list (ys.map PyData.str)) = PyData.eqvAll (xs.map PyData.str) (ys.map PyData.str) by simp only [PyData.eqv], eqvA_str]
theorem blsU_mp {α : Type} (p : α → Bool) : ∀ l : List α, blsU (l.map fun c => .bl (p c)) = some (l.map p)
  | [] => rfl
  | x :: l => by rw [List.map_cons, List.map_cons]; unfold blsU; rw [blsU_mp p l]; rfl
theorem all_map {α : Type} (p : α → Bool) (l : List α) : pAll [.lst true (l.map fun c => .bl (p c))] = some (.own (.bl (l.all p))) := by
  show (match blsU (l.map fun c => .bl (p c)) with | some bs => oB (bs.all id) | none => none) = _
  rw [blsU_mp]
  show oB ((l.map p).all id) = _
  rw [List.all_map]
  rfl
def dg (c : Nat) : Bool := decide (48 ≤ c ∧ c ≤ 57)
def az (c : Nat) : Bool := decide (97 ≤ c ∧ c ≤ 122)
theorem in_dg {c : Nat} : pInT [.str ⟨#[c]⟩, .str "0123456789"] = some (.own (.bl (dg c))) := by
  have e : ("0123456789" : Str).cps.toList = (List.range 10).map (48 + ·) := by decide +kernel
  show oB (decide (c ∈ ("0123456789" : Str).cps.toList)) = _
  rw [e]
  have : decide (c ∈ (List.range 10).map (48 + ·)) = dg c := by
    unfold dg
    rw [decide_eq_decide, List.mem_map]
    constructor
    · rintro ⟨i, hi, rfl⟩
      have := List.mem_range.mp hi
      omega
    · intro h
      exact ⟨c - 48, List.mem_range.mpr (by omega), by omega⟩
  rw [this]
theorem in_az {c : Nat} : pInT [.str ⟨#[c]⟩, .str "abcdefghijklmnopqrstuvwxyz"] = some (.own (.bl (az c))) := by
  have e : ("abcdefghijklmnopqrstuvwxyz" : Str).cps.toList = (List.range 26).map (97 + ·) := by decide +kernel
  show oB (decide (c ∈ ("abcdefghijklmnopqrstuvwxyz" : Str).cps.toList)) = _
  rw [e]
  have : decide (c ∈ (List.range 26).map (97 + ·)) = az c := by
    unfold az
    rw [decide_eq_decide, List.mem_map]
    constructor
    · rintro ⟨i, hi, rfl⟩
      have := List.mem_range.mp hi
      omega
    · intro h
      exact ⟨c - 97, List.mem_range.mpr (by omega), by omega⟩
  rw [this]
theorem O.w_nxR {o : O} {I : List Ent → Prop} {D : OK} (h : o.w ⟨I, D.rt, D.bk, D.ct, D.er⟩) (hk : ∀ ρ, I ρ → D.nx ρ) : o.w D := O.w_imp h hk (fun _ _ q => q) (fun _ q => q) (fun _ q => q) (fun _ _ _ q => q)
theorem lt_one {a b : Nat} : ([a] < [b]) ↔ a < b := by
  constructor
  · intro h
    cases h with
    | rel h => exact h
    | cons h => exact nomatch h
  · exact fun h => .rel h
theorem le_one {a b : Nat} : pLe [.str ⟨#[a]⟩, .str ⟨#[b]⟩] = some (.own (.bl (decide (a ≤ b)))) := by
  show oB (!decide ((⟨#[b]⟩ : Str).cps.toList < (⟨#[a]⟩ : Str).cps.toList)) = _
  have : (!decide ((⟨#[b]⟩ : Str).cps.toList < (⟨#[a]⟩ : Str).cps.toList)) = decide (a ≤ b) := by
    show (!decide ([b] < [a])) = _
    by_cases h : a ≤ b
    · rw [decide_eq_true h, decide_eq_false (fun q => by have := lt_one.mp q; omega)]; rfl
    · rw [decide_eq_false h, decide_eq_true (lt_one.mpr (by omega))]; rfl
  rw [this]
theorem s_0 : ("0" : Str) = ⟨#[48]⟩ := by decide +kernel
theorem s_9 : ("9" : Str) = ⟨#[57]⟩ := by decide +kernel
theorem s_a : ("a" : Str) = ⟨#[97]⟩ := by decide +kernel
theorem s_z : ("z" : Str) = ⟨#[122]⟩ := by decide +kernel
theorem s_m : ("-" : Str) = ⟨#[45]⟩ := by decide +kernel
theorem one_inj {a b : Nat} : ((⟨#[a]⟩ : Str) = ⟨#[b]⟩) ↔ a = b := by
  constructor
  · intro h; injection h with h; simpa using h
  · rintro rfl; rfl
theorem it_s0 {w : Str} {c : Nat} {r : List Nat} (h : w.cps.toList = c :: r) (hl : w.length ≤ 100000) : pItem [.str w, .int 0] = some (.vw (.str ⟨#[c]⟩)) := by
  show (if w.length ≤ sizeLine then (match atI w.cps.toList ((0 : Nat) : Int) with | some c => some (T.str ⟨#[c]⟩) | none => none) else none).map Ent.vw = _
  rw [if_pos (le_line hl), atI_nat (show w.cps.toList[0]? = some c by rw [h]; rfl)]
  rfl
theorem len_tl (w : Str) : w.length = w.cps.toList.length := by simp [Str.length]
/-- the number that a word tells -/
def numT (w : Str) : T := if (1 ≤ w.length ∧ w.length ≤ 30) ∧ w.cps.toList.all dg = true ∧ ¬ (1 < w.length ∧ w.cps.toList.head? = some 48) then .int ((NumText.digitsVal w.cps.toList : Nat) : Int) else .non
theorem all_dg {cs : List Nat} (h : cs.all dg = true) : NumText.AllDigits cs := fun c hc => of_decide_eq_true (List.all_eq_true.mp h c hc)
theorem int2_e {w : Str} (h : w.cps.toList.all dg = true) (h1 : 1 ≤ w.length) (h2 : w.length ≤ 30) : pInt2 [.str w] = some (.own (.int ((NumText.digitsVal w.cps.toList : Nat) : Int))) := by
  have e := intText_digits (x := w) (all_dg h) (fun q => by rw [len_tl, q] at h1; simp at h1) (by omega)
  show (match PySem.intText? w with | some n => if Nat.ble w.length 640 = true then some (Ent.own (.int n)) else none | none => none) = _
  rw [e]
  dsimp only
  rw [if_pos (Nat.ble_eq_true_of_le (by omega))]
theorem numdg_t {w : Str} (hl : w.length ≤ 100000) {Q : Ent → List Ent → Prop} {E : EK} (k : Q (.own (.lst true (w.cps.toList.map fun c => T.bl (dg c)))) [.own (.str w), .no]) :
    ((mLc [1] (mItV (mName 0)) (gmName 1) (mPure true) (mOp pInT true (mName 1) (mC (.str "0123456789")))) [.own (.str w), .no]).w Q E := by
  have hll := le_line hl
  simp_all! only [w_lc, w_itV, T.items, Ent.fz, T.isF, wipeE, hll]
  refine lcM_w (fun us acc ρ => ∃ (d e : List Nat), w.cps.toList = d ++ e ∧ us = e.map (fun c => T.str ⟨#[c]⟩) ∧ acc = d.map (fun c => T.bl (dg c)) ∧ ρ = [.own (.str w), .no]) (fun acc ρ h => ?_) (fun y us acc ρ h => ?_) _ _ _ ⟨[], w.cps.toList, rfl, rfl, rfl, rfl⟩
  · obtain ⟨d, e, h1, h2, rfl, rfl⟩ := h
    cases e with
    | cons _ _ => exact nomatch h2
    | nil =>
      rw [List.append_nil] at h1
      rw [h1] at k
      exact k
  · obtain ⟨d, e, h1, h2, rfl, rfl⟩ := h
    cases e with
    | nil => exact nomatch h2
    | cons c e =>
      rw [List.map_cons] at h2
      obtain ⟨rfl, rfl⟩ := List.cons.inj h2
      simp_all! only [in_dg, T.frz, wipeE]
      exact ⟨by rw [List.length_map]; exact lt_line (by have := congrArg List.length h1; rw [← len_tl, List.length_append] at this; omega), d ++ [c], e, by simp [h1], rfl, by simp⟩
theorem eq_one {a b : Nat} : pEq2 [.str ⟨#[a]⟩, .str ⟨#[b]⟩] = some (.own (.bl (decide (a = b)))) := by
  show some (Ent.own (.bl (decide ((⟨#[a]⟩ : Str) = ⟨#[b]⟩)))) = _
  rw [decide_eq_decide.mpr one_inj]
theorem number_in_t {w : Str} (hl : w.length ≤ 100000) {Q : Ent → List Ent → Prop} {E : EK} (k : ∀ r, Q (.own (numT w)) r) : (F_number_in [.own (.str w)]).w Q E := by
  have hll := le_line hl
  unfold F_number_in
  simp_all! only [pLe, pLen, oI, oB, T.tru, hll]
  by_cases h1 : 1 ≤ w.length ∧ w.length ≤ 30
  · rw [if_pos (by omega), if_pos (by omega)]
    refine numdg_t hl ?_
    simp_all! only [all_map, T.tru]
    cases h2 : w.cps.toList.all dg with
    | false =>
      have e : numT w = .non := if_neg fun q => by rw [h2] at q; exact Bool.noConfusion q.2.1
      rw [e] at k
      rw [if_neg (by decide)]
      exact k _
    | true =>
      rw [if_pos rfl]
      cases h3 : w.cps.toList with
      | nil => rw [len_tl, h3] at h1; simp at h1
      | cons c r =>
        simp_all! only [pGt, pLen, oI, oB, it_s0 h3 hl, s_0, eq_one, int2_e h2 h1.1 h1.2, hll]
        have hh : w.cps.toList.head? = some c := by rw [h3]; rfl
        by_cases h4 : 1 < w.length ∧ c = 48
        · have e : numT w = .non := if_neg fun q => q.2.2 ⟨h4.1, by rw [hh, h4.2]⟩
          rw [e] at k
          rw [if_pos (by omega), if_pos h4.2]
          exact k _
        · have e : numT w = .int ((NumText.digitsVal w.cps.toList : Nat) : Int) := if_pos ⟨h1, h2, fun q => h4 ⟨q.1, by have := q.2; rw [hh] at this; exact Option.some.inj this⟩⟩
          rw [e] at k
          split
          · rw [if_neg (fun q => h4 ⟨by omega, q⟩)]
            exact k _
          · exact k _
  · have e : numT w = .non := if_neg fun q => h1 q.1
    rw [e] at k
    split
    · rw [if_neg (by omega)]
      exact k _
    · exact k _
def inR (lo hi : Int) : T → T
  | .int n => if lo ≤ n ∧ n ≤ hi then .int n else .non
  | _ => .non
theorem ok_one {w : Str} (h : PyData.strOk w = true) : ∀ c ∈ w.cps.toList, PyData.strOk (⟨#[c]⟩ : Str) = true := fun c hc => by
  unfold PyData.strOk at h ⊢
  rw [← Array.all_toList, List.all_eq_true] at h
  rw [← Array.all_toList, List.all_eq_true]
  intro d hd
  have : d = c := by simpa using hd
  subst this
  exact h d hc
theorem filt_dg {cs : List Nat} : (cs.filter fun c => !dg c) = [] ↔ cs.all dg = true := by
  rw [List.filter_eq_nil_iff, List.all_eq_true]
  constructor
  · intro h c hc
    have := h c hc
    simpa using this
  · intro h c hc
    simp [h c hc]
theorem lnumdg_t {w : Str} (hl : w.length ≤ 100000) {x1 x2 : Ent} {Q : Ent → List Ent → Prop} {E : EK} (k : Q (.own (.lst true (((w.cps.toList.filter fun c => !dg c).map fun c => (⟨#[c]⟩ : Str)).map T.str))) [.own (.str w), x1, x2, .no]) :
    ((mLc [3] (mItV (mName 0)) (gmName 3) (mBr (mTest T.bool (mChain pLe pLe true (mC (.str "0")) (mName 3) (mC (.str "9")))) (mPure false) (mPure true)) (mName 3)) [.own (.str w), x1, x2, .no]).w Q E := by
  have hll := le_line hl
  simp_all! only [w_lc, w_itV, T.items, Ent.fz, T.isF, wipeE, hll]
  refine lcM_w (fun us acc ρ => ∃ (d e : List Nat), w.cps.toList = d ++ e ∧ us = e.map (fun c => T.str ⟨#[c]⟩) ∧ acc = ((d.filter fun c => !dg c).map fun c => (⟨#[c]⟩ : Str)).map T.str ∧ ρ = [.own (.str w), x1, x2, .no]) (fun acc ρ h => ?_) (fun y us acc ρ h => ?_) _ _ _ ⟨[], w.cps.toList, rfl, rfl, rfl, rfl⟩
  · obtain ⟨d, e, h1, h2, rfl, rfl⟩ := h
    cases e with
    | cons _ _ => exact nomatch h2
    | nil =>
      rw [List.append_nil] at h1
      rw [h1] at k
      exact k
  · obtain ⟨d, e, h1, h2, rfl, rfl⟩ := h
    cases e with
    | nil => exact nomatch h2
    | cons c e =>
      rw [List.map_cons] at h2
      obtain ⟨rfl, rfl⟩ := List.cons.inj h2
      have hd : (d.filter fun c => !dg c).length < sizeLine := lt_line (by have := congrArg List.length h1; rw [← len_tl, List.length_append] at this; have := List.length_filter_le (fun c => !dg c) d; omega)
      simp_all! only [s_0, s_9, le_one, T.frz, wipeE]
      have hfz : (Ent.vw (T.str ⟨#[c]⟩)).fz = some (.str ⟨#[c]⟩) := rfl
      by_cases h0 : 48 ≤ c ∧ c ≤ 57
      · have hdc : dg c = true := decide_eq_true h0
        rw [if_pos h0.1, if_pos h0.2]
        exact ⟨rfl, d ++ [c], e, by simp [h1], rfl, by simp [List.filter_append, hdc]⟩
      · have hdc : dg c = false := decide_eq_false h0
        have key : ∃ d_1 e_1, w.cps.toList = d_1 ++ e_1 ∧ List.map (fun c => T.str ⟨#[c]⟩) e = List.map (fun c => T.str ⟨#[c]⟩) e_1 ∧ ((d.filter fun c => !dg c).map fun c => (⟨#[c]⟩ : Str)).map T.str ++ [T.str ⟨#[c]⟩] = ((d_1.filter fun c => !dg c).map fun c => (⟨#[c]⟩ : Str)).map T.str := ⟨d ++ [c], e, by simp [h1], rfl, by simp [List.filter_append, hdc]⟩
        rw [hfz]
        split
        · rw [if_neg (fun q => h0 ⟨by assumption, q⟩)]
          exact ⟨rfl, by rw [List.length_map, List.length_map]; exact hd, key⟩
        · exact ⟨by rw [List.length_map, List.length_map]; exact hd, key⟩
theorem eq_strs {x y : Str} : pEq2 [.str x, .str y] = some (.own (.bl (decide (x = y)))) := rfl
theorem ne_strs {x y : Str} : pNe [.str x, .str y] = some (.own (.bl (!decide (x = y)))) := rfl
theorem numT_dg {w : Str} {n : Int} (h : numT w = .int n) : (1 ≤ w.length ∧ w.length ≤ 30) ∧ w.cps.toList.all dg = true ∧ ¬ (1 < w.length ∧ w.cps.toList.head? = some 48) ∧ n = ((NumText.digitsVal w.cps.toList : Nat) : Int) := by
  unfold numT at h
  split at h
  · rename_i q
    injection h with h
    exact ⟨q.1, q.2.1, q.2.2, h.symm⟩
  · cases h
theorem empty_len {w : Str} : w = "" ↔ w.length = 0 := by
  constructor
  · rintro rfl; decide +kernel
  · intro h
    refine str_ext ?_
    rw [len_tl] at h
    rw [List.length_eq_zero_iff.mp h]
    decide +kernel
theorem lnumber_t {w : Str} {lo hi : Int} (hl : w.length ≤ 100000) (hs : PyData.strOk w = true) {Q : Ent → List Ent → Prop} {E : EK} (k : ∀ r, Q (.own (inR lo hi (numT w))) r) : (F_law_number [.own (.str w), .own (.int lo), .own (.int hi)]).w Q E := by
  have hll := le_line hl
  have hne : pNe [.lst true (((w.cps.toList.filter fun c => !dg c).map fun c => (⟨#[c]⟩ : Str)).map T.str), .lst true []] = some (.own (.bl (!decide (((w.cps.toList.filter fun c => !dg c).map fun c => (⟨#[c]⟩ : Str)) = [])))) := ne_strl (ys := []) (fun x hx => by
    obtain ⟨c, hc, rfl⟩ := List.mem_map.mp hx
    exact ok_one hs c (List.mem_filter.mp hc).1) (fun _ q => nomatch q)
  unfold F_law_number
  simp_all! only [eq_strs]
  by_cases h0 : w = ""
  · have e : numT w = .non := if_neg fun q => by have := empty_len.mp h0; omega
    rw [e] at k
    rw [if_pos h0]
    exact k _
  rw [if_neg h0]
  have h0l : 1 ≤ w.length := by
    have : w.length ≠ 0 := fun q => h0 (empty_len.mpr q)
    omega
  refine lnumdg_t hl ?_
  simp_all! only [w_lst, keepAll, hne, T.tru, pGt, pLen, oI, oB, hll]
  refine ⟨Nat.zero_le _, ?_⟩
  have hxs : (((w.cps.toList.filter fun c => !dg c).map fun c => (⟨#[c]⟩ : Str)) = []) ↔ w.cps.toList.all dg = true := by
    rw [List.map_eq_nil_iff]
    exact filt_dg
  cases h2 : w.cps.toList.all dg with
  | false =>
    have e : numT w = .non := if_neg fun q => by rw [h2] at q; exact Bool.noConfusion q.2.1
    rw [e] at k
    rw [decide_eq_false (fun q => by have := hxs.mp q; rw [h2] at this; cases this), if_pos (by decide)]
    exact k _
  | true =>
    rw [decide_eq_true (hxs.mpr h2), if_neg (by decide)]
    by_cases h1 : w.length ≤ 30
    · rw [if_neg (by omega)]
      cases h3 : w.cps.toList with
      | nil => rw [len_tl, h3] at h0l; simp at h0l
      | cons c r =>
        have hh : w.cps.toList.head? = some c := by rw [h3]; rfl
        have hei := int2_e h2 h0l h1
        have hwl : w.length = r.length + 1 := by rw [len_tl, h3]; rfl
        have hw0 : w = "0" ↔ c = 48 ∧ r = [] := by
          rw [s_0]
          constructor
          · intro q
            rw [q] at h3
            have h3 : [48] = c :: r := h3
            injection h3 with a b
            exact ⟨a.symm, b.symm⟩
          · rintro ⟨rfl, rfl⟩
            exact str_ext (by rw [h3])
        simp_all! only [it_s0 h3 hl, s_0, eq_one, ne_strs, hei]
        rw [← s_0]
        by_cases h4 : 1 < w.length ∧ c = 48
        · have e : numT w = .non := if_neg fun q => q.2.2 ⟨h4.1, by rw [hh, h4.2]⟩
          rw [e] at k
          rw [if_pos h4.2, decide_eq_false (fun q => by have := (hw0.mp q).2; rw [this] at hwl; simp at hwl; omega), if_pos (by decide)]
          exact k _
        · have e : numT w = .int ((NumText.digitsVal w.cps.toList : Nat) : Int) := if_pos ⟨⟨h0l, h1⟩, h2, fun q => h4 ⟨q.1, by have := q.2; rw [hh] at this; exact Option.some.inj this⟩⟩
          rw [e] at k
          have hin : inR lo hi (.int ((NumText.digitsVal w.cps.toList : Nat) : Int)) = if lo ≤ ((NumText.digitsVal w.cps.toList : Nat) : Int) ∧ ((NumText.digitsVal w.cps.toList : Nat) : Int) ≤ hi then .int ((NumText.digitsVal w.cps.toList : Nat) : Int) else .non := rfl
          have heq : (c = 48 → (!decide (w = "0")) = false) := fun q => by
            rw [decide_eq_true (hw0.mpr ⟨q, List.length_eq_zero_iff.mp (by omega)⟩)]; rfl
          generalize ((NumText.digitsVal w.cps.toList : Nat) : Int) = n at *
          have tail : ∀ X : Prop, (X ↔ (if lo ≤ n then (if n ≤ hi then Q (.own (.int n)) [.own (.str w), .own (.int lo), .own (.int hi)] else Q (.own .non) [.own (.str w), .own (.int lo), .own (.int hi)]) else Q (.own .non) [.own (.str w), .own (.int lo), .own (.int hi)])) → X := fun X q => q.mpr (by
            by_cases a : lo ≤ n
            · by_cases b : n ≤ hi
              · rw [hin, if_pos ⟨a, b⟩] at k
                rw [if_pos a, if_pos b]
                exact k _
              · rw [hin, if_neg (fun q => b q.2)] at k
                rw [if_pos a, if_neg b]
                exact k _
            · rw [hin, if_neg (fun q => a q.1)] at k
              rw [if_neg a]
              exact k _)
          by_cases hc : c = 48
          · rw [if_pos hc, heq hc, if_neg (by decide)]
            simp_all! only [pLe, oB, hei]
            exact tail _ Iff.rfl
          · rw [if_neg hc]
            simp_all! only [pLe, oB, hei]
            exact tail _ Iff.rfl
    · have e : numT w = .non := if_neg fun q => h1 q.1.2
      rw [e] at k
      rw [if_pos (by omega)]
      exact k _
/-- the value that a word tells -/
def valT (w : Str) : T := match w.cps.toList with
  | 45 :: r => match numT ⟨r.toArray⟩ with
    | .int n => if n = 0 then .non else .int (-n)
    | _ => .non
  | _ => numT w
theorem digitsVal_b : ∀ (cs : List Nat) (a : Nat), cs.all dg = true → cs.foldl (fun acc c => acc * 10 + (c - 48)) a < (a + 1) * 10 ^ cs.length
  | [], a, _ => by simp
  | c :: cs, a, h => by
    simp only [List.all_cons, Bool.and_eq_true] at h
    have hc := of_decide_eq_true h.1
    have := digitsVal_b cs (a * 10 + (c - 48)) h.2
    rw [List.foldl_cons, List.length_cons, Nat.pow_succ]
    refine Nat.lt_of_lt_of_le this ?_
    rw [Nat.mul_comm (10 ^ cs.length) 10, ← Nat.mul_assoc]
    exact Nat.mul_le_mul_right _ (by omega)
theorem numT_b {w : Str} {n : Int} (h : numT w = .int n) : 0 ≤ n ∧ n < 10 ^ 30 := by
  obtain ⟨h1, h2, _, rfl⟩ := numT_dg h
  have := digitsVal_b w.cps.toList 0 h2
  have h4 : (0 + 1) * 10 ^ w.cps.toList.length ≤ 10 ^ 30 := by
    rw [Nat.zero_add, Nat.one_mul, ← len_tl]
    exact Nat.pow_le_pow_right (by decide) h1.2
  unfold NumText.digitsVal
  omega
theorem numT_cases (w : Str) : numT w = .non ∨ ∃ n : Int, numT w = .int n ∧ 0 ≤ n ∧ n < 10 ^ 30 := by
  cases h : numT w with
  | int n => exact .inr ⟨n, rfl, numT_b h⟩
  | non => exact .inl rfl
  | _ => unfold numT at h; split at h <;> cases h
theorem starts_m {w : Str} : Txt.startswith w "-" = decide (w.cps.toList.head? = some 45) := by
  unfold Txt.startswith
  rw [StrLaws.subAt_eq, List.drop_zero, s_m]
  show (decide (0 + 1 ≤ w.length) && ((w.cps.toList.take 1) == [45])) = _
  rw [len_tl w]
  cases h : w.cps.toList with
  | nil => simp
  | cons c r =>
    simp only [List.length_cons, List.take_succ_cons, List.take_zero, List.head?_cons, Option.some.injEq]
    rw [decide_eq_true (by omega), Bool.true_and]
    by_cases hc : c = 45
    · subst hc; simp
    · simp [hc]
theorem cut_from (w : Str) (n : Nat) : (cutS w (some (n : Int)) none).cps.toList = w.cps.toList.drop n := by
  unfold cutS
  rw [HT.sIx_nat, HT.sIx_none, len_tl]
  show (w.cps.toList.drop (min n w.cps.toList.length)).take _ = _
  rw [List.take_of_length_le (by rw [List.length_drop]; omega)]
  by_cases h : n ≤ w.cps.toList.length
  · rw [Nat.min_eq_left h]
  · rw [Nat.min_eq_right (by omega), List.drop_of_length_le (Nat.le_refl _), List.drop_of_length_le (by omega)]
theorem cut_to (w : Str) (n : Nat) : (cutS w none (some (n : Int))).cps.toList = w.cps.toList.take n := by
  unfold cutS
  rw [HT.sIx_nat, HT.sIx_none, len_tl]
  show (w.cps.toList.drop 0).take _ = _
  rw [List.drop_zero, Nat.sub_zero]
  by_cases h : n ≤ w.cps.toList.length
  · rw [Nat.min_eq_left h]
  · rw [Nat.min_eq_right (by omega), List.take_of_length_le (Nat.le_refl _), List.take_of_length_le (by omega)]
theorem sl_tail {w : Str} (hl : w.length ≤ 100000) : pSl (some 1) none [.str w] = some (.own (.str ⟨(w.cps.toList.drop 1).toArray⟩)) := by
  show (if w.length ≤ sizeLine then oS (cutS w (some ((1 : Nat) : Int)) none) else none) = _
  rw [if_pos (le_line hl)]
  have : cutS w (some ((1 : Nat) : Int)) none = ⟨(w.cps.toList.drop 1).toArray⟩ := str_ext (by rw [cut_from])
  rw [this]
theorem sl_head {w : Str} (hl : w.length ≤ 100000) : pSl none (some 1) [.str w] = some (.own (.str ⟨(w.cps.toList.take 1).toArray⟩)) := by
  show (if w.length ≤ sizeLine then oS (cutS w none (some ((1 : Nat) : Int))) else none) = _
  rw [if_pos (le_line hl)]
  have : cutS w none (some ((1 : Nat) : Int)) = ⟨(w.cps.toList.take 1).toArray⟩ := str_ext (by rw [cut_to])
  rw [this]
theorem pSt_m {w : Str} : pStarts [.str w, .str "-"] = some (.own (.bl (decide (w.cps.toList.head? = some 45)))) := by
  show some (Ent.own (.bl (Txt.startswith w "-"))) = _
  rw [starts_m]
theorem value_in_t {w : Str} (hl : w.length ≤ 100000) {Q : Ent → List Ent → Prop} {E : EK} (k : ∀ r, Q (.own (valT w)) r) : (F_value_in [.own (.str w)]).w Q E := by
  unfold F_value_in
  simp_all! only [w_m1, T.asS, pSt_m, T.tru]
  have ea : ∀ x, (Ent.vw (.str x)).arg = .own (.str x) := fun _ => rfl
  have eo : ∀ x, (Ent.own (.str x)).arg = .own (.str x) := fun _ => rfl
  have i1 : pIs [.non, .non] = some (.own (.bl true)) := rfl
  have i2 : ∀ n, pIs [.int n, .non] = some (.own (.bl false)) := fun _ => rfl
  have i3 : ∀ n, pNeg [.int n] = some (.own (.int (-n))) := fun _ => rfl
  have kn : (Ent.own .non).keep = some .non := rfl
  have ki : ∀ n, (Ent.own (.int n)).keep = some (.int n) := fun _ => rfl
  by_cases h : w.cps.toList.head? = some 45
  · rw [if_pos h]
    cases h3 : w.cps.toList with
    | nil => rw [h3] at h; cases h
    | cons c r =>
      have hc : c = 45 := by rw [h3] at h; exact Option.some.inj h
      subst hc
      have hv : valT w = (match numT ⟨r.toArray⟩ with | .int n => if n = 0 then .non else .int (-n) | _ => .non) := by
        unfold valT
        rw [h3]
        rfl
      have hlen : (⟨r.toArray⟩ : Str).length ≤ 100000 := by
        have := len_tl w
        rw [h3] at this
        simp only [List.length_cons] at this
        rw [len_tl]
        show r.toArray.toList.length ≤ _
        simp only [List.toList_toArray]
        omega
      simp_all! only [sl_tail hl, h3, List.drop_succ_cons, List.drop_zero, eo]
      refine number_in_t hlen fun r' => ?_
      rcases numT_cases ⟨r.toArray⟩ with e | ⟨n, e, _, _⟩
      · rw [e] at hv ⊢
        rw [hv] at k
        simp_all! only [kn, i1]
        exact k _
      · rw [e] at hv ⊢
        rw [hv] at k
        simp_all! only [ki, i2, eq_ints, i3]
        by_cases hn : n = 0
        · rw [if_pos hn]
          dsimp only at k
          rw [if_pos hn] at k
          exact k _
        · rw [if_neg hn]
          dsimp only at k
          rw [if_neg hn] at k
          exact k _
  · rw [if_neg h]
    have hv : valT w = numT w := by
      unfold valT
      cases h3 : w.cps.toList with
      | nil => rfl
      | cons c r =>
        rw [h3] at h
        split
        · rename_i q
          injection q with q1 q2
          subst q1
          exact absurd rfl h
        · rfl
    rw [hv] at k
    simp_all! only [ea]
    exact number_in_t hl fun r => k _
theorem ok_tail {w : Str} (h : PyData.strOk w = true) : PyData.strOk (⟨(w.cps.toList.drop 1).toArray⟩ : Str) = true := by
  unfold PyData.strOk at h ⊢
  rw [← Array.all_toList, List.all_eq_true] at h
  rw [← Array.all_toList, List.all_eq_true]
  intro d hd
  exact h d (List.mem_of_mem_drop (i := 1) (by simpa only [List.toList_toArray] using hd))
theorem inR_all {w : Str} : inR 0 (10 ^ 30) (numT w) = numT w := by
  rcases numT_cases w with e | ⟨n, e, h1, h2⟩
  · rw [e]; rfl
  · rw [e]
    show (if _ then _ else _) = _
    rw [if_pos ⟨h1, by omega⟩]
theorem e30 : pPow [.int 10, .int 30] = some (.own (.int (10 ^ 30))) := by kernel_rfl
theorem lvalue_t {w : Str} (hl : w.length ≤ 100000) (hs : PyData.strOk w = true) {Q : Ent → List Ent → Prop} {E : EK} (k : ∀ r, Q (.own (valT w)) r) : (F_law_value [.own (.str w)]).w Q E := by
  unfold F_law_value
  have ea : ∀ x, (Ent.vw (.str x)).arg = .own (.str x) := fun _ => rfl
  have eo : ∀ x, (Ent.own (.str x)).arg = .own (.str x) := fun _ => rfl
  have ei : ∀ x, (Ent.own (.int x)).arg = .own (.int x) := fun _ => rfl
  have i1 : pIs [.non, .non] = some (.own (.bl true)) := rfl
  have i2 : ∀ n, pIs [.int n, .non] = some (.own (.bl false)) := fun _ => rfl
  have i3 : ∀ n, pSub [.int 0, .int n] = some (.own (.int (0 - n))) := fun _ => rfl
  have kn : (Ent.own .non).keep = some .non := rfl
  have ki : ∀ n, (Ent.own (.int n)).keep = some (.int n) := fun _ => rfl
  have hq : ((⟨(w.cps.toList.take 1).toArray⟩ : Str) = ⟨#[45]⟩) ↔ w.cps.toList.head? = some 45 := by
    cases h3 : w.cps.toList with
    | nil =>
      constructor
      · intro q; injection q with q; cases q
      · intro q; cases q
    | cons c r =>
      show ((⟨#[c]⟩ : Str) = _) ↔ _
      rw [one_inj]
      simp
  simp_all! only [sl_head hl, eq_strs, s_m]
  by_cases h : w.cps.toList.head? = some 45
  · rw [if_pos (hq.mpr h)]
    cases h3 : w.cps.toList with
    | nil => rw [h3] at h; cases h
    | cons c r =>
      have hc : c = 45 := by rw [h3] at h; exact Option.some.inj h
      subst hc
      have hv : valT w = (match numT ⟨r.toArray⟩ with | .int n => if n = 0 then .non else .int (-n) | _ => .non) := by
        unfold valT
        rw [h3]
        rfl
      have hlen : (⟨r.toArray⟩ : Str).length ≤ 100000 := by
        have := len_tl w
        rw [h3] at this
        simp only [List.length_cons] at this
        rw [len_tl]
        show r.toArray.toList.length ≤ _
        simp only [List.toList_toArray]
        omega
      have hok := ok_tail hs
      rw [h3, List.drop_succ_cons, List.drop_zero] at hok
      simp_all! only [sl_tail hl, h3, List.drop_succ_cons, List.drop_zero, eo, ei, e30]
      refine lnumber_t hlen hok fun r' => ?_
      rcases numT_cases ⟨r.toArray⟩ with e | ⟨n, e, b1, b2⟩
      · rw [e] at hv ⊢
        rw [hv] at k
        simp_all! only [inR, kn, i1]
        exact k _
      · rw [e] at hv ⊢
        rw [hv] at k
        dsimp only at k
        by_cases hn : n = 0
        · rw [if_pos hn] at k
          have : inR 1 (10 ^ 30) (.int n) = .non := if_neg (by omega)
          rw [this]
          simp_all! only [kn, i1]
          exact k _
        · rw [if_neg hn] at k
          have : inR 1 (10 ^ 30) (.int n) = .int n := if_pos ⟨by omega, by omega⟩
          rw [this]
          simp_all! only [ki, i2, i3]
          rw [show (0 : Int) - n = -n by omega]
          exact k _
  · rw [if_neg (fun q => h (hq.mp q))]
    have hv : valT w = numT w := by
      unfold valT
      cases h3 : w.cps.toList with
      | nil => rfl
      | cons c r =>
        rw [h3] at h
        split
        · rename_i q
          injection q with q1 q2
          subst q1
          exact absurd rfl h
        · rfl
    rw [hv, ← inR_all] at k
    simp_all! only [ea, ei, e30]
    exact lnumber_t hl hs fun r => k _
end Rm
namespace Rm
open PySem PySem.Spec L2
open PyProof.Rows hiding St
local macro_rules | `(tactic| simp_all! only [$ts,*]) => `(tactic| simp only [w_def, w_thenS, w_if, w_test, w_bool, w_op, w_prim, w_cons, w_nil, w_name, w_c, w_pure, w_br, w_seqT, w_lst, w_chain, w_part, w_pureO, w_slice, w_drop, w_ret, w_retN, w_set, w_move, w_raise, w_asg, w_parN, w_par, w_plName, w_plFld, w_setF, w_setI, w_ddel, w_safe, w_callW, w_kNo, w_kLw, w_callR, w_methR, w_methW, w_methWK, w_nx, w_bk, w_ct, w_rt, w_ok, w_err, w_oerr, gmName, List.length_cons, List.length_nil, List.replicate, List.cons_append, List.nil_append, List.getElem?_cons_zero, List.getElem?_cons_succ, List.set_cons_zero, List.set_cons_succ, List.map_cons, List.map_nil, rdW_own, rdW_vw, mvW_own, Bool.true_or, Bool.false_or, Bool.or_true, true_and, and_true, t_own, t_vw, h_own, keep_own, fz_own, oW_some, oW_ite, bW_some, tW_some, tW_ite, T.bool, Option.map_some, finP, setN, Nat.zero_lt_succ, Nat.reduceLT, Nat.reduceAdd, Nat.reduceLeDiff, getK_hd, id_eq, prep, back, sfW, Bool.and_true, Bool.true_and, decide_true, decide_eq_true_eq, if_true, if_false, ite_true, ite_false, Bool.false_eq_true, eq_self, $ts,*])
theorem numaz_t {w : Str} (hl : w.length ≤ 100000) {Q : Ent → List Ent → Prop} {E : EK} (k : Q (.own (.lst true (w.cps.toList.map fun c => T.bl (az c)))) [.own (.str w), .no]) :
    ((mLc [1] (mItV (mName 0)) (gmName 1) (mPure true) (mOp pInT true (mName 1) (mC (.str "abcdefghijklmnopqrstuvwxyz")))) [.own (.str w), .no]).w Q E := by
  have hll := le_line hl
  simp_all! only [w_lc, w_itV, T.items, Ent.fz, T.isF, wipeE, hll]
  refine lcM_w (fun us acc ρ => ∃ (d e : List Nat), w.cps.toList = d ++ e ∧ us = e.map (fun c => T.str ⟨#[c]⟩) ∧ acc = d.map (fun c => T.bl (az c)) ∧ ρ = [.own (.str w), .no]) (fun acc ρ h => ?_) (fun y us acc ρ h => ?_) _ _ _ ⟨[], w.cps.toList, rfl, rfl, rfl, rfl⟩
  · obtain ⟨d, e, h1, h2, rfl, rfl⟩ := h
    cases e with
    | cons _ _ => exact nomatch h2
    | nil =>
      rw [List.append_nil] at h1
      rw [h1] at k
      exact k
  · obtain ⟨d, e, h1, h2, rfl, rfl⟩ := h
    cases e with
    | nil => exact nomatch h2
    | cons c e =>
      rw [List.map_cons] at h2
      obtain ⟨rfl, rfl⟩ := List.cons.inj h2
      simp_all! only [in_az, T.frz, wipeE]
      exact ⟨by rw [List.length_map]; exact lt_line (by have := congrArg List.length h1; rw [← len_tl, List.length_append] at this; omega), d ++ [c], e, by simp [h1], rfl, by simp⟩
theorem filt_az {cs : List Nat} : (cs.filter fun c => !az c) = [] ↔ cs.all az = true := by
  rw [List.filter_eq_nil_iff, List.all_eq_true]
  constructor
  · intro h c hc
    have := h c hc
    simpa using this
  · intro h c hc
    simp [h c hc]
theorem lnumaz_t {w : Str} (hl : w.length ≤ 100000) {Q : Ent → List Ent → Prop} {E : EK} (k : Q (.own (.lst true (((w.cps.toList.filter fun c => !az c).map fun c => (⟨#[c]⟩ : Str)).map T.str))) [.own (.str w), .no]) :
    ((mLc [1] (mItV (mName 0)) (gmName 1) (mBr (mTest T.bool (mChain pLe pLe true (mC (.str "a")) (mName 1) (mC (.str "z")))) (mPure false) (mPure true)) (mName 1)) [.own (.str w), .no]).w Q E := by
  have hll := le_line hl
  simp_all! only [w_lc, w_itV, T.items, Ent.fz, T.isF, wipeE, hll]
  refine lcM_w (fun us acc ρ => ∃ (d e : List Nat), w.cps.toList = d ++ e ∧ us = e.map (fun c => T.str ⟨#[c]⟩) ∧ acc = ((d.filter fun c => !az c).map fun c => (⟨#[c]⟩ : Str)).map T.str ∧ ρ = [.own (.str w), .no]) (fun acc ρ h => ?_) (fun y us acc ρ h => ?_) _ _ _ ⟨[], w.cps.toList, rfl, rfl, rfl, rfl⟩
  · obtain ⟨d, e, h1, h2, rfl, rfl⟩ := h
    cases e with
    | cons _ _ => exact nomatch h2
    | nil =>
      rw [List.append_nil] at h1
      rw [h1] at k
      exact k
  · obtain ⟨d, e, h1, h2, rfl, rfl⟩ := h
    cases e with
    | nil => exact nomatch h2
    | cons c e =>
      rw [List.map_cons] at h2
      obtain ⟨rfl, rfl⟩ := List.cons.inj h2
      have hd : (d.filter fun c => !az c).length < sizeLine := lt_line (by have := congrArg List.length h1; rw [← len_tl, List.length_append] at this; have := List.length_filter_le (fun c => !az c) d; omega)
      simp_all! only [s_a, s_z, le_one, T.frz, wipeE]
      have hfz : (Ent.vw (T.str ⟨#[c]⟩)).fz = some (.str ⟨#[c]⟩) := rfl
      by_cases h0 : 97 ≤ c ∧ c ≤ 122
      · have hdc : az c = true := decide_eq_true h0
        rw [if_pos h0.1, if_pos h0.2]
        exact ⟨rfl, d ++ [c], e, by simp [h1], rfl, by simp [List.filter_append, hdc]⟩
      · have hdc : az c = false := decide_eq_false h0
        have key : ∃ d_1 e_1, w.cps.toList = d_1 ++ e_1 ∧ List.map (fun c => T.str ⟨#[c]⟩) e = List.map (fun c => T.str ⟨#[c]⟩) e_1 ∧ ((d.filter fun c => !az c).map fun c => (⟨#[c]⟩ : Str)).map T.str ++ [T.str ⟨#[c]⟩] = ((d_1.filter fun c => !az c).map fun c => (⟨#[c]⟩ : Str)).map T.str := ⟨d ++ [c], e, by simp [h1], rfl, by simp [List.filter_append, hdc]⟩
        rw [hfz]
        split
        · rw [if_neg (fun q => h0 ⟨by assumption, q⟩)]
          exact ⟨rfl, by rw [List.length_map, List.length_map]; exact hd, key⟩
        · exact ⟨by rw [List.length_map, List.length_map]; exact hd, key⟩
def nmB (w : Str) : Bool := decide (1 ≤ w.length ∧ w.length ≤ 6) && w.cps.toList.all az
theorem isi_str {x : Str} : pIsi "str" [.str x] = some (.own (.bl true)) := rfl
theorem is_name_t {w : Str} (hl : w.length ≤ 100000) {Q : Ent → List Ent → Prop} {E : EK} (k : ∀ r, Q (.own (.bl (nmB w))) r) : (F_is_name [.own (.str w)]).w Q E := by
  have hll := le_line hl
  unfold F_is_name
  simp_all! only [isi_str, pLe, pLen, oI, oB, T.tru, hll]
  by_cases h1 : 1 ≤ w.length ∧ w.length ≤ 6
  · have e : nmB w = w.cps.toList.all az := by unfold nmB; rw [decide_eq_true h1]; rfl
    rw [e] at k
    rw [if_pos (by omega), if_pos (by omega)]
    refine numaz_t hl ?_
    simp_all! only [all_map]
    exact k _
  · have e : nmB w = false := by unfold nmB; rw [decide_eq_false h1]; rfl
    rw [e] at k
    split
    · rw [if_neg (by omega)]
      exact k _
    · exact k _
theorem lname_t {w : Str} (hl : w.length ≤ 100000) (hs : PyData.strOk w = true) {Q : Ent → List Ent → Prop} {E : EK} (k : ∀ r, Q (.own (.bl (nmB w))) r) : (F_law_is_name [.own (.str w)]).w Q E := by
  have hll := le_line hl
  have hne : pEq2 [.lst true (((w.cps.toList.filter fun c => !az c).map fun c => (⟨#[c]⟩ : Str)).map T.str), .lst true []] = some (.own (.bl (decide (((w.cps.toList.filter fun c => !az c).map fun c => (⟨#[c]⟩ : Str)) = [])))) := eq_strl (ys := []) (fun x hx => by
    obtain ⟨c, hc, rfl⟩ := List.mem_map.mp hx
    exact ok_one hs c (List.mem_filter.mp hc).1) (fun _ q => nomatch q)
  have hxs : decide (((w.cps.toList.filter fun c => !az c).map fun c => (⟨#[c]⟩ : Str)) = []) = w.cps.toList.all az := by
    rw [← Bool.decide_coe (w.cps.toList.all az), decide_eq_decide, List.map_eq_nil_iff]
    exact filt_az
  rw [hxs] at hne
  unfold F_law_is_name
  simp_all! only [isi_str, pLe, pLen, oI, oB, T.tru, hll]
  by_cases h1 : 1 ≤ w.length ∧ w.length ≤ 6
  · have e : nmB w = w.cps.toList.all az := by unfold nmB; rw [decide_eq_true h1]; rfl
    rw [e] at k
    rw [if_pos (by omega), if_pos (by omega)]
    refine lnumaz_t hl ?_
    simp_all! only [w_lst, keepAll, hne]
    exact ⟨Nat.zero_le _, k _⟩
  · have e : nmB w = false := by unfold nmB; rw [decide_eq_false h1]; rfl
    rw [e] at k
    split
    · rw [if_neg (by omega)]
      exact k _
    · exact k _
def alone : List Str := ["begin", "crash", "clean"]
def six : List Str := ["save", "release", "back", "commit", "abort", "prepare"]
def mds : List Str := ["hold", "keep", "change", "replace"]
def cmds : List Str := ["change", "replace"]
theorem any_mem2 {w : Str} {xs : List Str} : (xs.any fun y => decide (y = w)) = decide (w ∈ xs) := by
  rw [Bool.eq_iff_iff, List.any_eq_true, decide_eq_true_iff]
  constructor
  · rintro ⟨x, hx, h⟩
    exact of_decide_eq_true h ▸ hx
  · exact fun h => ⟨w, h, decide_eq_true rfl⟩
theorem inC_e {neg : Bool} {w : Str} (xs : List Str) (h : (xs.map V.str).all flatV = true) : pInC neg (xs.map V.str) [.str w] = some (.own (.bl (if neg then !decide (w ∈ xs) else decide (w ∈ xs)))) := by
  show (if (xs.map V.str).all flatV = true then oB (if neg then !inV (.str w) (xs.map V.str) else inV (.str w) (xs.map V.str)) else none) = _
  rw [if_pos h, inV_str, any_mem2]
theorem inC_alone {neg : Bool} {w : Str} : pInC neg [(V.str "begin"), (V.str "crash"), (V.str "clean")] [.str w] = some (.own (.bl (if neg then !decide (w ∈ alone) else decide (w ∈ alone)))) := inC_e alone (by decide)
theorem inC_six {neg : Bool} {w : Str} : pInC neg [(V.str "save"), (V.str "release"), (V.str "back"), (V.str "commit"), (V.str "abort"), (V.str "prepare")] [.str w] = some (.own (.bl (if neg then !decide (w ∈ six) else decide (w ∈ six)))) := inC_e six (by decide)
theorem is_mode_t {w : Str} {Q : Ent → List Ent → Prop} {E : EK} (k : ∀ r, Q (.own (.bl (decide (w ∈ mds)))) r) : (F_is_mode [.own (.str w)]).w Q E := by
  unfold F_is_mode
  have e : pInC false [(V.str "hold"), (V.str "keep"), (V.str "change"), (V.str "replace")] [.str w] = some (.own (.bl (decide (w ∈ mds)))) := inC_e (neg := false) mds (by decide)
  simp_all! only [isi_str, e]
  exact k _
theorem is_cmode_t {w : Str} {Q : Ent → List Ent → Prop} {E : EK} (k : ∀ r, Q (.own (.bl (decide (w ∈ cmds)))) r) : (F_is_change_mode [.own (.str w)]).w Q E := by
  unfold F_is_change_mode
  have e : pInC false (cutV [(V.str "hold"), (V.str "keep"), (V.str "change"), (V.str "replace")] (some 2) none) [.str w] = some (.own (.bl (decide (w ∈ cmds)))) := inC_e (neg := false) cmds (by decide)
  simp_all! only [isi_str, e]
  exact k _
def wr (f : T → T) : T → T
  | .int n => f (.int n)
  | _ => .non
/-- what the words of a line tell -/
def opT : List Str → T
  | [w] => if w ∈ alone then .tup [.str w] else .non
  | [w, a] => if w ∈ alone then .non else if w = "horizon" then wr (fun n => .tup [.str w, n]) (inR 0 60 (numT a)) else if w ∈ six then wr (fun n => .tup [.str w, n]) (inR 1 1000000 (numT a)) else .non
  | [w, a, x, m] => if w = "lock" ∧ nmB x = true ∧ m ∈ mds then wr (fun n => .tup [.str w, n, .str x, .str m]) (inR 1 1000000 (numT a)) else .non
  | [w, a, x, m, v] => if w = "change" ∧ nmB x = true ∧ m ∈ cmds then wr (fun n => wr (fun z => .tup [.str w, n, .str x, .str m, z]) (valT v)) (inR 1 1000000 (numT a)) else .non
  | _ => .non
theorem w_eqR {r : R Ent} {e : Ent} {ρ : List Ent} (h : r = .ok e ρ) {Q : Ent → List Ent → Prop} {E : EK} : r.w Q E = Q e ρ := by rw [h]; rfl
theorem is_int_t {n : Int} {Q : Ent → List Ent → Prop} {E : EK} (k : ∀ r, Q (.own (.bl true)) r) : (F_is_integer [.own (.int n)]).w Q E := by
  unfold F_is_integer
  have h1 : pIsi "int" [.int n] = some (.own (.bl true)) := rfl
  have h2 : pIsi "bool" [.int n] = some (.own (.bl false)) := rfl
  simp_all! only [h1, h2]
  exact k _
def NI (x : T) : Prop := x = .non ∨ ∃ n : Int, x = .int n
theorem numT_NI (w : Str) : NI (numT w) := (numT_cases w).elim .inl fun ⟨n, e, _⟩ => .inr ⟨n, e⟩
theorem from_to_t {x : T} {lo hi : Int} (hx : NI x) {Q : Ent → List Ent → Prop} {E : EK} (k : ∀ r, Q (.own (.bl (inR lo hi x).iI)) r) : (F_is_from_to [.own x, .own (.int lo), .own (.int hi)]).w Q E := by
  unfold F_is_from_to
  rcases hx with rfl | ⟨n, rfl⟩
  · have e : F_is_integer [.own .non] = .ok (.own (.bl false)) [.own .non] := by kernel_rfl
    have ea : (Ent.own .non).arg = .own .non := rfl
    have ev : (Ent.vw .non).arg = .own .non := rfl
    simp_all! only [ea, ev, w_eqR e]
    exact k _
  · simp_all! only [gmName]
    refine is_int_t fun r => ?_
    have hi2 : (inR lo hi (.int n)).iI = decide (lo ≤ n ∧ n ≤ hi) := by
      show (if lo ≤ n ∧ n ≤ hi then T.int n else .non).iI = _
      split
      · rename_i q; rw [decide_eq_true q]; rfl
      · rename_i q; rw [decide_eq_false q]; rfl
    rw [hi2] at k
    simp_all! only [pLe, oB]
    by_cases a : lo ≤ n
    · rw [if_pos a]
      rw [show decide (lo ≤ n ∧ n ≤ hi) = decide (n ≤ hi) by simp [a]] at k
      exact ⟨rfl, k _⟩
    · rw [if_neg a]
      rw [decide_eq_false (fun q => a q.1)] at k
      exact k _
def valOk (x : T) : Prop := x = .non ∨ ∃ n : Int, x = .int n ∧ n.natAbs < 10 ^ 30
theorem valT_ok (w : Str) : valOk (valT w) := by
  unfold valT
  split
  · rename_i r _
    rcases numT_cases ⟨r.toArray⟩ with e | ⟨n, e, b1, b2⟩
    · rw [e]; exact .inl rfl
    · rw [e]
      dsimp only
      split
      · exact .inl rfl
      · exact .inr ⟨_, rfl, by omega⟩
  · rcases numT_cases w with e | ⟨n, e, b1, b2⟩
    · exact .inl e
    · exact .inr ⟨n, e, by omega⟩
theorem is_value_t {x : T} (hx : valOk x) {Q : Ent → List Ent → Prop} {E : EK} (k : ∀ r, Q (.own (.bl x.iI)) r) : (F_is_value [.own x]).w Q E := by
  unfold F_is_value
  rcases hx with rfl | ⟨n, rfl, hn⟩
  · have e : F_is_integer [.own .non] = .ok (.own (.bl false)) [.own .non] := by kernel_rfl
    have ev : (Ent.vw .non).arg = .own .non := rfl
    simp_all! only [ev, w_eqR e]
    exact k _
  · simp_all! only [gmName]
    refine is_int_t fun r => ?_
    have ha : pAbs [.int n] = some (.own (.int (if n < 0 then -n else n))) := rfl
    simp_all! only [ha, pLt, oB]
    rw [decide_eq_true (by split <;> omega)]
    exact k _
theorem itT_0 {x : T} {xs : List T} : pItem [.tup (x :: xs), .int 0] = some (.vw x) := by
  show (atI (x :: xs) ((0 : Nat) : Int)).map Ent.vw = _
  rw [atI_nat (show (x :: xs)[0]? = some x from rfl)]
  rfl
theorem itT_1 {x y : T} {xs : List T} : pItem [.tup (x :: y :: xs), .int 1] = some (.vw y) := by
  show (atI (x :: y :: xs) ((1 : Nat) : Int)).map Ent.vw = _
  rw [atI_nat (show (x :: y :: xs)[1]? = some y from rfl)]
  rfl
theorem itT_2 {x y z : T} {xs : List T} : pItem [.tup (x :: y :: z :: xs), .int 2] = some (.vw z) := by
  show (atI (x :: y :: z :: xs) ((2 : Nat) : Int)).map Ent.vw = _
  rw [atI_nat (show (x :: y :: z :: xs)[2]? = some z from rfl)]
  rfl
theorem itT_3 {x y z u : T} {xs : List T} : pItem [.tup (x :: y :: z :: u :: xs), .int 3] = some (.vw u) := by
  show (atI (x :: y :: z :: u :: xs) ((3 : Nat) : Int)).map Ent.vw = _
  rw [atI_nat (show (x :: y :: z :: u :: xs)[3]? = some u from rfl)]
  rfl
theorem itT_4 {x y z u v : T} {xs : List T} : pItem [.tup (x :: y :: z :: u :: v :: xs), .int 4] = some (.vw v) := by
  show (atI (x :: y :: z :: u :: v :: xs) ((4 : Nat) : Int)).map Ent.vw = _
  rw [atI_nat (show (x :: y :: z :: u :: v :: xs)[4]? = some v from rfl)]
  rfl
theorem req_lock {n : T} {x m : Str} (hl : x.length ≤ 100000) {Q : Ent → List Ent → Prop} {E : EK} (k : ∀ r, Q (.own (.bl (nmB x && decide (m ∈ mds)))) r) : (F_is_request [.own (.tup [.str "lock", n, .str x, .str m])]).w Q E := by
  unfold F_is_request
  have ea : ∀ x, (Ent.vw (.str x)).arg = .own (.str x) := fun _ => rfl
  simp_all! only [itT_0, itT_2, itT_3, eq_strs, pLen, oI, List.length_cons, List.length_nil, eq_ints, ea]
  rw [if_pos (by decide)]
  refine is_name_t hl fun r => ?_
  cases hb : nmB x with
  | false =>
    rw [hb] at k
    simp_all! only [gmName]
    exact k _
  | true =>
    rw [hb] at k
    simp_all! only [gmName]
    exact is_mode_t fun r => k _
theorem req_chg {n z : T} {x m : Str} (hl : x.length ≤ 100000) (hz : valOk z) {Q : Ent → List Ent → Prop} {E : EK} (k : ∀ r, Q (.own (.bl (nmB x && (decide (m ∈ cmds) && z.iI)))) r) : (F_is_request [.own (.tup [.str "change", n, .str x, .str m, z])]).w Q E := by
  unfold F_is_request
  have ea : ∀ x, (Ent.vw (.str x)).arg = .own (.str x) := fun _ => rfl
  have ez : (Ent.vw z).arg = .own z := by rcases hz with rfl | ⟨n, rfl, _⟩ <;> rfl
  have e1 : ("change" : Str) ≠ "lock" := by decide +kernel
  simp_all! only [itT_0, itT_2, itT_3, itT_4, eq_strs, pLen, oI, List.length_cons, List.length_nil, eq_ints, ea, ez]
  rw [if_neg e1, if_pos (by decide)]
  refine is_name_t hl fun r => ?_
  cases hb : nmB x with
  | false =>
    rw [hb] at k
    simp_all! only [gmName]
    exact k _
  | true =>
    rw [hb] at k
    simp_all! only [gmName]
    refine is_cmode_t fun r => ?_
    by_cases hm : m ∈ cmds
    · rw [decide_eq_true hm] at k ⊢
      simp_all! only [gmName]
      exact is_value_t hz fun r => k _
    · rw [decide_eq_false hm] at k ⊢
      simp_all! only [gmName]
      exact k _
theorem req_no {w : Str} {n : T} {ps : List T} (h1 : ¬ (w = "lock" ∧ ps.length = 2)) (h2 : ¬ (w = "change" ∧ ps.length = 3)) {Q : Ent → List Ent → Prop} {E : EK} (k : ∀ r, Q (.own (.bl false)) r) : (F_is_request [.own (.tup (.str w :: n :: ps))]).w Q E := by
  unfold F_is_request
  simp only [w_def, w_thenS, w_if, w_test, w_bool, w_op, w_prim, w_cons, w_nil, w_name, w_c, w_pure, w_br, w_seqT, w_lst, w_chain, w_part, w_pureO, w_slice, w_drop, w_ret, w_retN, w_set, w_move, w_raise, w_asg, w_parN, w_par, w_plName, w_plFld, w_setF, w_setI, w_ddel, w_safe, w_callW, w_kNo, w_kLw, w_methR, w_methW, w_methWK, w_nx, w_bk, w_ct, w_rt, w_ok, w_err, w_oerr, gmName, List.length_cons, List.length_nil, List.replicate, List.cons_append, List.nil_append, List.getElem?_cons_zero, List.getElem?_cons_succ, List.set_cons_zero, List.set_cons_succ, List.map_cons, List.map_nil, rdW_own, rdW_vw, mvW_own, Bool.true_or, Bool.false_or, Bool.or_true, true_and, and_true, t_own, t_vw, h_own, keep_own, fz_own, oW_some, oW_ite, bW_some, tW_some, tW_ite, T.bool, Option.map_some, finP, setN, Nat.zero_lt_succ, Nat.reduceLT, Nat.reduceAdd, Nat.reduceLeDiff, getK_hd, id_eq, prep, back, sfW, Bool.and_true, Bool.true_and, decide_true, decide_eq_true_eq, if_true, if_false, ite_true, ite_false, Bool.false_eq_true, eq_self, itT_0, eq_strs, pLen, oI, List.length_cons, List.length_nil, eq_ints]
  by_cases a : w = "lock"
  · have e1 : w ≠ "change" := by rw [a]; decide +kernel
    rw [if_pos a, if_neg (fun q => h1 ⟨a, by omega⟩), if_neg e1]
    exact k _
  · rw [if_neg a]
    by_cases b : w = "change"
    · rw [if_pos b, if_neg (fun q => h2 ⟨b, by omega⟩)]
      exact k _
    · rw [if_neg b]
      exact k _
theorem is_op_1 {w : Str} (hs : PyData.strOk w = true) {Q : Ent → List Ent → Prop} {E : EK} (k : ∀ r, Q (.own (.bl (decide (w ∈ alone)))) r) : (F_is_operation [.own (.tup [.str w])]).w Q E := by
  unfold F_is_operation
  have e0 : pIsi "tuple" [.tup [.str w]] = some (.own (.bl true)) := rfl
  have e1 : pEq2 [.tup [.str w], .tup []] = some (.own (.bl false)) := eq_tnil (by simp [T.lyA, T.ly, hs]) (by simp [T.dpA, T.dp])
  simp_all! only [e0, T.tru, fzAll, e1, itT_0, isi_str, inC_alone, pLen, oI, List.length_cons, List.length_nil, eq_ints, pLt, oB]
  refine ⟨Nat.zero_le _, ?_⟩
  by_cases a : w ∈ alone
  · rw [decide_eq_true a] at k
    rw [if_pos a]
    exact k _
  · rw [decide_eq_false a] at k
    rw [if_neg a, if_pos (by decide)]
    exact k _
def opB (w : Str) (n : T) (k : Nat) (rq : Bool) : Bool := if w ∈ alone then false else if w = "horizon" then decide (k = 0) && (inR 0 60 n).iI else (inR 1 1000000 n).iI && (if w ∈ six then decide (k = 0) else rq)
theorem is_op_2 {w : Str} {n : T} {ps : List T} (hs : PyData.strOk w = true) (hn : NI n) (hp : T.lyA ps = true) (hd : T.dpA ps ≤ 50) {rq : Bool} {Q : Ent → List Ent → Prop} {E : EK}
    (hr : ∀ (Q : Ent → List Ent → Prop) (E : EK), (∀ r, Q (.own (.bl rq)) r) → (F_is_request [.own (.tup (.str w :: n :: ps))]).w Q E)
    (hf : T.isFA ps = true)
    (k : ∀ r, Q (.own (.bl (opB w n ps.length rq))) r) : (F_is_operation [.own (.tup (.str w :: n :: ps))]).w Q E := by
  unfold F_is_operation
  have hnl : n.ly = true ∧ n.dp = 0 ∧ n.isF = true := by rcases hn with rfl | ⟨_, rfl⟩ <;> exact ⟨rfl, rfl, rfl⟩
  have en : (Ent.vw n).arg = .own n := by rcases hn with rfl | ⟨_, rfl⟩ <;> rfl
  have ei : ∀ x, (Ent.own (.int x)).arg = .own (.int x) := fun _ => rfl
  have et : (Ent.vw (.tup (.str w :: n :: ps))).arg = .own (.tup (.str w :: n :: ps)) := by
    show (if _ then _ else _) = _
    rw [if_pos (by simp [T.isF, T.isFA, hnl.2.2, hf])]
  have e0 : pIsi "tuple" [.tup (.str w :: n :: ps)] = some (.own (.bl true)) := rfl
  have e1 : pEq2 [.tup (.str w :: n :: ps), .tup []] = some (.own (.bl false)) := eq_tnil (by simp only [T.lyA, T.ly, hs, hnl.1, hp, Bool.and_self]) (by simp only [T.dpA, T.dp, hnl.2.1]; omega)
  simp only [w_def, w_thenS, w_if, w_test, w_bool, w_op, w_prim, w_cons, w_nil, w_name, w_c, w_pure, w_br, w_seqT, w_lst, w_chain, w_part, w_pureO, w_slice, w_drop, w_ret, w_retN, w_set, w_move, w_raise, w_asg, w_parN, w_par, w_plName, w_plFld, w_setF, w_setI, w_ddel, w_safe, w_callW, w_kNo, w_kLw, w_methR, w_methW, w_methWK, w_nx, w_bk, w_ct, w_rt, w_ok, w_err, w_oerr, gmName, List.length_cons, List.length_nil, List.replicate, List.cons_append, List.nil_append, List.getElem?_cons_zero, List.getElem?_cons_succ, List.set_cons_zero, List.set_cons_succ, List.map_cons, List.map_nil, rdW_own, rdW_vw, mvW_own, Bool.true_or, Bool.false_or, Bool.or_true, true_and, and_true, t_own, t_vw, h_own, keep_own, fz_own, oW_some, oW_ite, bW_some, tW_some, tW_ite, T.bool, Option.map_some, finP, setN, Nat.zero_lt_succ, Nat.reduceLT, Nat.reduceAdd, Nat.reduceLeDiff, getK_hd, id_eq, prep, back, sfW, Bool.and_true, Bool.true_and, decide_true, decide_eq_true_eq, if_true, if_false, ite_true, ite_false, Bool.false_eq_true, eq_self, e0, T.tru, fzAll, e1, itT_0, isi_str, inC_alone, inC_six, pLen, oI, List.length_cons, List.length_nil, eq_ints, eq_strs, pLt, oB]
  refine ⟨Nat.zero_le _, ?_⟩
  by_cases a : w ∈ alone
  · have e : opB w n ps.length rq = false := if_pos a
    rw [e] at k
    rw [if_pos a, decide_eq_false (by omega)]
    exact k _
  rw [if_neg a, if_neg (by omega)]
  by_cases b : w = "horizon"
  · have e : opB w n ps.length rq = (decide (ps.length = 0) && (inR 0 60 n).iI) := by unfold opB; rw [if_neg a, if_pos b]
    rw [e] at k
    rw [if_pos b]
    by_cases c : ps.length = 0
    · rw [decide_eq_true c, Bool.true_and] at k
      rw [if_pos (by omega)]
      simp_all! only [itT_1, en, ei]
      exact from_to_t hn fun r => k _
    · rw [decide_eq_false c, Bool.false_and] at k
      rw [if_neg (by omega)]
      exact k _
  · rw [if_neg b]
    have e : opB w n ps.length rq = ((inR 1 1000000 n).iI && (if w ∈ six then decide (ps.length = 0) else rq)) := by unfold opB; rw [if_neg a, if_neg b]
    rw [e] at k
    simp_all! only [itT_1, en, ei]
    refine from_to_t hn fun r => ?_
    simp_all! only [T.tru]
    cases hb : (inR 1 1000000 n).iI with
    | false =>
      rw [hb, Bool.false_and] at k
      rw [if_neg (by decide)]
      exact k _
    | true =>
      rw [hb, Bool.true_and] at k
      rw [if_pos rfl]
      simp_all! only [itT_0, inC_six, pLen, oI, List.length_cons, eq_ints, et]
      by_cases c : w ∈ six
      · rw [if_pos c] at k
        rw [if_pos c, show decide (((ps.length + 1 + 1 : Nat) : Int) = 2) = decide (ps.length = 0) from decide_eq_decide.mpr (by omega)]
        exact k _
      · rw [if_neg c] at k
        rw [if_neg c]
        exact hr _ _ fun r => k _
end Rm
namespace Rm
open PySem PySem.Spec L2
open PyProof.Rows hiding St
local macro_rules | `(tactic| simp_all! only [$ts,*]) => `(tactic| simp only [w_def, w_thenS, w_if, w_test, w_bool, w_op, w_prim, w_cons, w_nil, w_name, w_c, w_pure, w_br, w_seqT, w_lst, w_chain, w_part, w_pureO, w_slice, w_drop, w_ret, w_retN, w_set, w_move, w_raise, w_asg, w_parN, w_par, w_plName, w_plFld, w_setF, w_setI, w_ddel, w_safe, w_callW, w_kNo, w_kLw, w_callR, w_methR, w_methW, w_methWK, w_nx, w_bk, w_ct, w_rt, w_ok, w_err, w_oerr, gmName, List.length_cons, List.length_nil, List.replicate, List.cons_append, List.nil_append, List.getElem?_cons_zero, List.getElem?_cons_succ, List.set_cons_zero, List.set_cons_succ, List.map_cons, List.map_nil, rdW_own, rdW_vw, mvW_own, Bool.true_or, Bool.false_or, Bool.or_true, true_and, and_true, t_own, t_vw, h_own, keep_own, fz_own, oW_some, oW_ite, bW_some, tW_some, tW_ite, T.bool, Option.map_some, finP, setN, Nat.zero_lt_succ, Nat.reduceLT, Nat.reduceAdd, Nat.reduceLeDiff, getK_hd, id_eq, prep, back, sfW, Bool.and_true, Bool.true_and, decide_true, decide_eq_true_eq, if_true, if_false, ite_true, ite_false, Bool.false_eq_true, eq_self, $ts,*])
local macro_rules | `(tactic| simp! only [$ts,*]) => `(tactic| simp only [w_def, w_if, w_test, w_bool, w_op, w_prim, w_cons, w_nil, w_name, w_c, w_pure, w_br, w_seqT, w_lst, w_chain, w_part, w_pureO, w_slice, w_drop, w_ret, w_retN, w_set, w_move, w_raise, w_asg, w_parN, w_par, w_plName, w_plFld, w_setF, w_setI, w_ddel, w_safe, w_callW, w_kNo, w_kLw, w_callR, w_methR, w_methW, w_methWK, w_nx, w_bk, w_ct, w_rt, w_ok, w_err, w_oerr, gmName, List.length_cons, List.length_nil, List.replicate, List.cons_append, List.nil_append, List.getElem?_cons_zero, List.getElem?_cons_succ, List.set_cons_zero, List.set_cons_succ, List.map_cons, List.map_nil, rdW_own, rdW_vw, mvW_own, Bool.true_or, Bool.false_or, Bool.or_true, true_and, and_true, t_own, t_vw, h_own, keep_own, fz_own, oW_some, oW_ite, bW_some, tW_some, tW_ite, T.bool, Option.map_some, finP, setN, Nat.zero_lt_succ, Nat.reduceLT, Nat.reduceAdd, Nat.reduceLeDiff, getK_hd, id_eq, prep, back, sfW, Bool.and_true, Bool.true_and, decide_true, decide_eq_true_eq, if_true, if_false, ite_true, ite_false, Bool.false_eq_true, eq_self, $ts,*])
theorem sp_e : (" " : Str) = ⟨#[32]⟩ := by decide +kernel
theorem split_sp {l : Str} (hl : l.length ≤ 100000) : pSplit [.str l, .str " "] = some (.own (.lst true ((Txt.split l " ").map T.str))) := by
  show (if ((" " : Str).length == 0) = false ∧ Nat.ble (l.length + 2) sizeLine = true then _ else none) = _
  rw [if_pos ⟨by decide +kernel, Nat.ble_eq_true_of_le (Nat.le_trans (show l.length + 2 ≤ 100002 by omega) (by decide))⟩]
theorem itL_0 {o : Bool} {x : T} {xs : List T} : pItem [.lst o (x :: xs), .int 0] = some (.vw x) := by
  show (atI (x :: xs) ((0 : Nat) : Int)).map Ent.vw = _
  rw [atI_nat (show (x :: xs)[0]? = some x from rfl)]
  rfl
theorem itL_1 {o : Bool} {x y : T} {xs : List T} : pItem [.lst o (x :: y :: xs), .int 1] = some (.vw y) := by
  show (atI (x :: y :: xs) ((1 : Nat) : Int)).map Ent.vw = _
  rw [atI_nat (show (x :: y :: xs)[1]? = some y from rfl)]
  rfl
theorem itL_2 {o : Bool} {x y z : T} {xs : List T} : pItem [.lst o (x :: y :: z :: xs), .int 2] = some (.vw z) := by
  show (atI (x :: y :: z :: xs) ((2 : Nat) : Int)).map Ent.vw = _
  rw [atI_nat (show (x :: y :: z :: xs)[2]? = some z from rfl)]
  rfl
theorem itL_3 {o : Bool} {x y z u : T} {xs : List T} : pItem [.lst o (x :: y :: z :: u :: xs), .int 3] = some (.vw u) := by
  show (atI (x :: y :: z :: u :: xs) ((3 : Nat) : Int)).map Ent.vw = _
  rw [atI_nat (show (x :: y :: z :: u :: xs)[3]? = some u from rfl)]
  rfl
theorem itL_4 {o : Bool} {x y z u v : T} {xs : List T} : pItem [.lst o (x :: y :: z :: u :: v :: xs), .int 4] = some (.vw v) := by
  show (atI (x :: y :: z :: u :: v :: xs) ((4 : Nat) : Int)).map Ent.vw = _
  rw [atI_nat (show (x :: y :: z :: u :: v :: xs)[4]? = some v from rfl)]
  rfl
theorem isFA_strs : ∀ xs : List Str, T.isFA (xs.map T.str) = true
  | [] => rfl
  | x :: xs => by rw [List.map_cons, T.isFA, isFA_strs xs]; rfl
theorem slL_from {o : Bool} {xs : List T} {n : Nat} (h : T.isFA xs = true) (hn : n ≤ xs.length) : pSl (some (n : Int)) none [.lst o xs] = some (.own (.lst true (xs.drop n))) := by
  unfold pSl
  dsimp only
  rw [if_pos h]
  unfold cutT
  rw [HT.sIx_nat, HT.sIx_none, Nat.min_eq_left hn, List.take_of_length_le (by simp)]
theorem slL_to {o : Bool} {xs : List T} {n : Nat} (h : T.isFA xs = true) (hn : n ≤ xs.length) : pSl none (some (n : Int)) [.lst o xs] = some (.own (.lst true (xs.take n))) := by
  unfold pSl
  dsimp only
  rw [if_pos h]
  unfold cutT
  rw [HT.sIx_nat, HT.sIx_none, Nat.min_eq_left hn, List.drop_zero, Nat.sub_zero]
theorem op_one {w l : Str} (hl : l.length ≤ 100000) (e : Txt.split l " " = [w]) (hs : PyData.strOk w = true) {Q : Ent → List Ent → Prop} {E : EK} (k : ∀ e r, (e = .own (if w ∈ alone then .tup [.str w] else .non) ∨ e = .vw (if w ∈ alone then .tup [.str w] else .non)) → Q e r) : (F_operation_in [.own (.str l)]).w Q E := by
  have es := split_sp hl
  rw [e] at es
  have e1 : pSl none (some 1) [.lst true [T.str w]] = some (.own (.lst true [.str w])) := slL_to (n := 1) rfl (Nat.le_refl _)
  have e2 : pTuple [.lst true [T.str w]] = some (.own (.tup [.str w])) := rfl
  have kl : (Ent.own (.lst true [T.str w])).keep = some (.lst true [.str w]) := rfl
  have kt : (Ent.own (.tup [T.str w])).keep = some (.tup [.str w]) := rfl
  have et : (Ent.vw (.tup [T.str w])).arg = .own (.tup [.str w]) := rfl
  unfold F_operation_in
  simp! only [gmName]
  rw [w_thenS]
  simp! only [w_m1, T.asS, es, List.map_cons, List.map_nil, kl]
  rw [w_thenS]
  simp! only [e1, e2, kt]
  rw [w_thenS]
  refine O.w_nx (I := fun ρ => ρ = [.own (.str l), .own (.lst true [.str w]), .own (.tup [.str w])]) ?_ ?_
  · simp_all! only [itL_0, inC_alone, pLen, oI, List.length_cons, List.length_nil, pGt, oB]
    split
    · rw [if_neg (by decide)]; exact trivial
    · exact trivial
  rintro ρ rfl
  dsimp only
  rw [w_thenS]
  refine O.w_nx (I := fun ρ => ρ = [.own (.str l), .own (.lst true [.str w]), .own (.tup [.str w])]) ?_ ?_
  · simp_all! only [itL_0, eq_strs, pLen, oI, List.length_cons, List.length_nil, eq_ints]
    split
    · rw [if_neg (by decide)]; exact trivial
    · exact trivial
  rintro ρ rfl
  dsimp only
  simp_all! only [pLen, oI, List.length_cons, List.length_nil, eq_ints, et]
  refine is_op_1 hs fun r => ?_
  by_cases a : w ∈ alone
  · rw [if_pos a] at k
    rw [decide_eq_true a]
    simp_all! only [T.tru]
    exact k _ _ (.inr rfl)
  · rw [if_neg a] at k
    rw [decide_eq_false a]
    simp_all! only [T.tru]
    exact k _ _ (.inl rfl)
theorem fz_strs : ∀ xs : List Str, fzAll ((xs.map T.str).map Ent.own) = some (xs.map T.str)
  | [] => rfl
  | x :: xs => by
    rw [List.map_cons, List.map_cons]
    unfold fzAll
    rw [fz_strs xs]
    rfl
def psOf (w : Str) : List Str → List T
  | [x, m, v] => if w = "change" then [.str x, .str m, valT v] else [.str x, .str m, .str v]
  | rest => rest.map T.str
theorem psOf_no {w : Str} {rest : List Str} (h : ¬ (w = "change" ∧ rest.length = 3)) : psOf w rest = rest.map T.str := by
  unfold psOf
  split
  · rw [if_neg (fun q => h ⟨q, rfl⟩)]; rfl
  · rfl
theorem len3 {α : Type} : ∀ {l : List α}, l.length = 3 → ∃ x y z, l = [x, y, z]
  | [x, y, z], _ => ⟨x, y, z, rfl⟩
  | [], h => by simp at h
  | [_], h => by simp at h
  | [_, _], h => by simp at h
  | _ :: _ :: _ :: _ :: _, h => by simp at h
theorem len2 {α : Type} : ∀ {l : List α}, l.length = 2 → ∃ x y, l = [x, y]
  | [x, y], _ => ⟨x, y, rfl⟩
  | [], h => by simp at h
  | [_], h => by simp at h
  | _ :: _ :: _ :: _, h => by simp at h
theorem psOf_ok {w : Str} {rest : List Str} (h : ∀ x ∈ rest, PyData.strOk x = true) : (psOf w rest).length = rest.length ∧ T.isFA (psOf w rest) = true ∧ T.lyA (psOf w rest) = true ∧ T.dpA (psOf w rest) ≤ 50 := by
  by_cases hc : w = "change" ∧ rest.length = 3
  · obtain ⟨hc, h3⟩ := hc
    obtain ⟨x, m, v, rfl⟩ := len3 h3
    have hps : psOf w [x, m, v] = [.str x, .str m, valT v] := if_pos hc
    have h1 := h x (by simp)
    have h2 := h m (by simp)
    rw [hps]
    rcases valT_ok v with q | ⟨n, q, _⟩ <;> rw [q]
    · exact ⟨rfl, rfl, by simp [T.lyA, T.ly, h1, h2], by simp [T.dpA, T.dp]⟩
    · exact ⟨rfl, rfl, by simp [T.lyA, T.ly, h1, h2], by simp [T.dpA, T.dp]⟩
  · rw [psOf_no hc]
    refine ⟨List.length_map _, isFA_strs _, lyA_all fun t q => ?_, dpA_all fun t q => ?_⟩
    · obtain ⟨x, hx, rfl⟩ := List.mem_map.mp q
      exact h x hx
    · obtain ⟨x, hx, rfl⟩ := List.mem_map.mp q
      exact Nat.zero_le _
theorem inR_n {lo hi : Int} {x : T} (hx : NI x) : (inR lo hi x = .non ∧ (inR lo hi x).iI = false) ∨ (inR lo hi x = x ∧ (inR lo hi x).iI = true ∧ ∃ n, x = .int n) := by
  rcases hx with rfl | ⟨n, rfl⟩
  · exact .inl ⟨rfl, rfl⟩
  · by_cases h : lo ≤ n ∧ n ≤ hi
    · have e : inR lo hi (.int n) = .int n := if_pos h
      exact .inr ⟨e, by rw [e]; rfl, n, rfl⟩
    · have e : inR lo hi (.int n) = .non := if_neg h
      exact .inl ⟨e, by rw [e]; rfl⟩
theorem wr_n {lo hi : Int} {x : T} (hx : NI x) {f : T → T} : (if (inR lo hi x).iI = true then f x else .non) = wr f (inR lo hi x) := by
  rcases inR_n (lo := lo) (hi := hi) hx with ⟨h1, h2⟩ | ⟨h1, h2, n, rfl⟩
  · rw [h2, h1]; rfl
  · rw [h2, h1]; rfl
theorem op_more {w a l : Str} {rest : List Str} (hl : l.length ≤ 100000) (e : Txt.split l " " = w :: a :: rest) (hn : rest.length ≤ 90000) (hw : ∀ x ∈ w :: a :: rest, x.length ≤ 100000 ∧ PyData.strOk x = true) {Q : Ent → List Ent → Prop} {E : EK} (k : ∀ e r, (e = .own (opT (w :: a :: rest)) ∨ e = .vw (opT (w :: a :: rest))) → Q e r) : (F_operation_in [.own (.str l)]).w Q E := by
  have es := split_sp hl
  rw [e] at es
  have hF : T.isFA (T.str w :: T.str a :: rest.map T.str) = true := isFA_strs (w :: a :: rest)
  rw [List.map_cons, List.map_cons] at es
  have hlen : (T.str w :: T.str a :: rest.map T.str).length = rest.length + 2 := by simp
  have e1 : pSl none (some 1) [.lst true (.str w :: .str a :: rest.map T.str)] = some (.own (.lst true [.str w])) := slL_to (n := 1) hF (by rw [hlen]; omega)
  have e2 : pTuple [.lst true [T.str w]] = some (.own (.tup [.str w])) := rfl
  have e3 : pSl (some 2) none [.lst true (.str w :: .str a :: rest.map T.str)] = some (.own (.lst true (rest.map T.str))) := slL_from (n := 2) hF (by rw [hlen]; omega)
  have kl : ∀ us, (Ent.own (.lst true us)).keep = some (.lst true us) := fun _ => rfl
  have kt : (Ent.own (.tup [T.str w])).keep = some (.tup [.str w]) := rfl
  have ea : ∀ x, (Ent.vw (.str x)).arg = .own (.str x) := fun _ => rfl
  unfold F_operation_in
  simp! only [gmName]
  rw [w_thenS]
  simp! only [w_m1, T.asS, es, kl]
  rw [w_thenS]
  simp! only [e1, e2, kt]
  rw [w_thenS]
  refine O.w_nx (I := fun ρ => ρ = [.own (.str l), .own (.lst true (.str w :: .str a :: rest.map T.str)), .own (if w ∈ alone then .tup [.str w] else .tup (.str w :: numT a :: rest.map T.str))]) ?_ ?_
  · by_cases hal : w ∈ alone
    · rw [if_pos hal]
      simp_all! only [List.map_cons, itL_0, inC_alone, decide_eq_true hal]
      rw [if_neg (by decide)]
      exact trivial
    · rw [if_neg hal]
      simp_all! only [List.map_cons, itL_0, itL_1, inC_alone, decide_eq_false hal, pLen, oI, List.length_cons, pGt, oB, ea]
      rw [if_pos (by decide), if_pos (by omega)]
      have hna : (Ent.own (numT a)).fz = some (numT a) := by rcases numT_NI a with q | ⟨n, q⟩ <;> rw [q] <;> rfl
      have hfa : fzAll (.vw (.str w) :: .own (numT a) :: ((rest.map T.str).map Ent.own ++ [])) = some (.str w :: numT a :: rest.map T.str) := by
        rw [List.append_nil]
        unfold fzAll
        unfold fzAll
        rw [fz_strs, hna]
        rfl
      refine number_in_t (hw a (by simp)).1 fun r => ?_
      simp_all! only [w_star, e3, starI, hfa]
      refine ⟨isFA_strs _, ?_⟩
      have hml : (rest.map T.str).length = rest.length := List.length_map _
      exact le_line (by omega)
  rintro ρ rfl
  dsimp only
  rw [w_thenS]
  refine O.w_nx (I := fun ρ => ρ = [.own (.str l), .own (.lst true (.str w :: .str a :: rest.map T.str)), .own (if w ∈ alone then .tup [.str w] else .tup (.str w :: numT a :: psOf w rest))]) ?_ ?_
  · by_cases hc : w = "change" ∧ rest.length = 3
    · obtain ⟨hc, h3⟩ := hc
      obtain ⟨x, m, v, rfl⟩ := len3 h3
      have hal : w ∉ alone := by rw [hc]; decide +kernel
      have hps : psOf w [x, m, v] = [.str x, .str m, valT v] := if_pos hc
      rw [if_neg hal, if_neg hal, hps]
      have hna : (Ent.own (numT a)).fz = some (numT a) := by rcases numT_NI a with q | ⟨n, q⟩ <;> rw [q] <;> rfl
      have hva : (Ent.own (valT v)).fz = some (valT v) := by rcases valT_ok v with q | ⟨n, q, _⟩ <;> rw [q] <;> rfl
      have e4 : pSl none (some 4) [.tup [.str w, numT a, .str x, .str m, .str v]] = some (.own (.tup [.str w, numT a, .str x, .str m])) := rfl
      have hfa : fzAll [.own (.str w), .own (numT a), .own (.str x), .own (.str m), .own (valT v)] = some [.str w, numT a, .str x, .str m, valT v] := by
        unfold fzAll
        unfold fzAll
        unfold fzAll
        unfold fzAll
        unfold fzAll
        unfold fzAll
        rw [hna, hva]
        rfl
      simp_all! only [List.map_cons, List.map_nil, itL_0, itL_4, eq_strs, pLen, oI, List.length_cons, List.length_nil, eq_ints, ea]
      rw [if_pos hc, if_pos (by decide)]
      simp_all! only [w_star, e4, starI, List.map_cons, List.map_nil, List.cons_append, List.nil_append]
      refine ⟨by rcases numT_NI a with q | ⟨n, q⟩ <;> rw [q] <;> rfl, ?_⟩
      simp_all! only [itL_4, ea]
      refine value_in_t (hw v (by simp)).1 fun r => ?_
      simp_all! only [hfa]
      exact le_line (by simp)
    · rw [psOf_no hc]
      simp_all! only [itL_0, eq_strs, pLen, oI, List.length_cons, List.length_map, eq_ints]
      by_cases b : w = "change"
      · rw [if_pos b, if_neg (fun q => hc ⟨b, by omega⟩)]
        exact trivial
      · rw [if_neg b]
        exact trivial
  rintro ρ rfl
  dsimp only
  by_cases hal : w ∈ alone
  · have hk : opT (w :: a :: rest) = .non := by
      have h1 : w ≠ "lock" := fun q => by rw [q] at hal; exact absurd hal (by decide +kernel)
      have h2 : w ≠ "change" := fun q => by rw [q] at hal; exact absurd hal (by decide +kernel)
      unfold opT
      split
      · rename_i q; injection q with q1 q2; cases q2
      · rename_i q; injection q with q1 q2; subst q1; rw [if_pos hal]
      · rename_i q; injection q with q1 q2; subst q1; rw [if_neg (fun q => h1 q.1)]
      · rename_i q; injection q with q1 q2; subst q1; rw [if_neg (fun q => h2 q.1)]
      · rfl
    rw [hk] at k
    rw [if_pos hal]
    simp_all! only [pLen, oI, List.length_cons, List.length_nil, List.length_map, eq_ints]
    rw [if_neg (by omega)]
    exact k _ _ (.inl rfl)
  · rw [if_neg hal]
    obtain ⟨p1, p2, p3, p4⟩ := psOf_ok (w := w) (rest := rest) fun x q => (hw x (by simp [q])).2
    have hwk := (hw w (by simp)).2
    have et : (Ent.vw (.tup (.str w :: numT a :: psOf w rest))).arg = .own (.tup (.str w :: numT a :: psOf w rest)) := by
      show (if _ then _ else _) = _
      rw [if_pos]
      rcases numT_NI a with q | ⟨n, q⟩ <;> rw [q] <;> simp [T.isF, T.isFA, p2]
    have fin : ∀ rq : Bool, (∀ (Q : Ent → List Ent → Prop) (E : EK), (∀ r, Q (.own (.bl rq)) r) → (F_is_request [.own (.tup (.str w :: numT a :: psOf w rest))]).w Q E) → (if opB w (numT a) rest.length rq = true then .tup (.str w :: numT a :: psOf w rest) else .non) = opT (w :: a :: rest) →
        ((mRet (mBr (mBr (mTest T.bool (mOp pEq2 true (mPrim pLen (mCons true (mName 2) mNil)) (mPrim pLen (mCons true (mName 1) mNil)))) (mTest T.tru (mCallR F_is_operation (mCons true (mName 2) mNil))) (mPure false)) (mName 2) (mC T.non)))
        [Ent.own (T.str l), Ent.own (T.lst true (T.str w :: T.str a :: List.map T.str rest)), Ent.own (T.tup (T.str w :: numT a :: psOf w rest))]).w
        { nx := fun ρ' => Q (Ent.own T.non) (finP [true] ρ'), rt := fun e ρ' => Q e (finP [true] ρ'), bk := fun x => False, ct := fun x => False, er := fun C d ρ' => E C d (finP [true] ρ') } := by
      intro rq hr he
      rw [← he] at k
      simp_all! only [pLen, oI, List.length_cons, List.length_nil, List.length_map, eq_ints, et, p1]
      refine is_op_2 hwk (numT_NI a) p3 p4 hr p2 fun r => ?_
      rw [p1]
      cases hb : opB w (numT a) rest.length rq with
      | false =>
        rw [hb] at k
        rw [if_neg (by decide)] at k
        simp_all! only [T.tru]
        exact k _ _ (.inl rfl)
      | true =>
        rw [hb] at k
        rw [if_pos rfl] at k
        simp_all! only [T.tru]
        exact k _ _ (.inr rfl)
    by_cases A : w = "lock" ∧ rest.length = 2
    · obtain ⟨hA, h2⟩ := A
      obtain ⟨x, m, rfl⟩ := len2 h2
      have hc : w ≠ "change" := by rw [hA]; decide +kernel
      have hh : w ≠ "horizon" := by rw [hA]; decide +kernel
      have h6 : w ∉ six := by rw [hA]; decide +kernel
      have hps : psOf w [x, m] = [.str x, .str m] := rfl
      refine fin (nmB x && decide (m ∈ mds)) (fun Q E q => by rw [hps, hA]; exact req_lock (hw x (by simp)).1 q) ?_
      have e2 : opB w (numT a) [x, m].length (nmB x && decide (m ∈ mds)) = ((inR 1 1000000 (numT a)).iI && (nmB x && decide (m ∈ mds))) := by unfold opB; rw [if_neg hal, if_neg hh, if_neg h6]
      rw [e2, hps]
      show _ = if w = "lock" ∧ nmB x = true ∧ m ∈ mds then wr (fun n => .tup [.str w, n, .str x, .str m]) (inR 1 1000000 (numT a)) else .non
      by_cases g : nmB x = true ∧ m ∈ mds
      · refine Eq.trans ?_ (if_pos ⟨hA, g⟩).symm
        rw [← wr_n (numT_NI a), g.1, decide_eq_true g.2]
        simp only [Bool.and_true]
      · refine Eq.trans ?_ (if_neg (fun q => g q.2)).symm
        rw [if_neg]
        intro q
        simp only [Bool.and_eq_true, decide_eq_true_eq] at q
        exact g q.2
    by_cases B : w = "change" ∧ rest.length = 3
    · obtain ⟨hB, h3⟩ := B
      obtain ⟨x, m, v, rfl⟩ := len3 h3
      have hh : w ≠ "horizon" := by rw [hB]; decide +kernel
      have h6 : w ∉ six := by rw [hB]; decide +kernel
      have hps : psOf w [x, m, v] = [.str x, .str m, valT v] := if_pos hB
      refine fin (nmB x && (decide (m ∈ cmds) && (valT v).iI)) (fun Q E q => by rw [hps, hB]; exact req_chg (hw x (by simp)).1 (valT_ok v) q) ?_
      have e2 : opB w (numT a) [x, m, v].length (nmB x && (decide (m ∈ cmds) && (valT v).iI)) = ((inR 1 1000000 (numT a)).iI && (nmB x && (decide (m ∈ cmds) && (valT v).iI))) := by unfold opB; rw [if_neg hal, if_neg hh, if_neg h6]
      rw [e2, hps]
      show _ = if w = "change" ∧ nmB x = true ∧ m ∈ cmds then wr (fun n => wr (fun z => .tup [.str w, n, .str x, .str m, z]) (valT v)) (inR 1 1000000 (numT a)) else .non
      by_cases g : nmB x = true ∧ m ∈ cmds
      · refine Eq.trans ?_ (if_pos ⟨hB, g⟩).symm
        rw [← wr_n (numT_NI a), g.1, decide_eq_true g.2]
        rcases valT_ok v with q | ⟨n, q, _⟩
        · rw [q]; cases hI : (inR 1 1000000 (numT a)).iI <;> simp [wr, T.iI]
        · rw [q]; cases hI : (inR 1 1000000 (numT a)).iI <;> simp [wr, T.iI]
      · refine Eq.trans ?_ (if_neg (fun q => g q.2)).symm
        rw [if_neg]
        intro q
        simp only [Bool.and_eq_true, decide_eq_true_eq] at q
        exact g ⟨q.2.1, q.2.2.1⟩
    refine fin false (fun Q E q => by
      refine req_no (fun z => A ⟨z.1, by have := z.2; rw [p1] at this; exact this⟩) (fun z => B ⟨z.1, by have := z.2; rw [p1] at this; exact this⟩) q) ?_
    cases rest with
    | nil =>
      show (if opB w (numT a) 0 false = true then T.tup [.str w, numT a] else .non) = if w ∈ alone then .non else if w = "horizon" then wr (fun n => .tup [.str w, n]) (inR 0 60 (numT a)) else if w ∈ six then wr (fun n => .tup [.str w, n]) (inR 1 1000000 (numT a)) else .non
      unfold opB
      rw [if_neg hal, if_neg hal]
      by_cases b : w = "horizon"
      · rw [if_pos b, if_pos b, ← wr_n (numT_NI a)]
        simp
      · rw [if_neg b, if_neg b]
        by_cases c : w ∈ six
        · rw [if_pos c, if_pos c, ← wr_n (numT_NI a)]
          simp
        · rw [if_neg c, if_neg c]
          simp
    | cons y ys =>
      have e2 : opB w (numT a) (y :: ys).length false = false := by
        unfold opB
        rw [if_neg hal]
        simp
      rw [e2, if_neg (by decide)]
      unfold opT
      split
      · rename_i q; injection q with q1 q2; cases q2
      · rename_i q; injection q with q1 q2; injection q2 with q3 q4; cases q4
      · rename_i q; injection q with q1 q2; injection q2 with q3 q4
        subst q1
        rw [if_neg (fun z => A ⟨z.1, by rw [q4]; rfl⟩)]
      · rename_i q; injection q with q1 q2; injection q2 with q3 q4
        subst q1
        rw [if_neg (fun z => B ⟨z.1, by rw [q4]; rfl⟩)]
      · rfl
end Rm
namespace Rm
open PySem PySem.Spec L2
open PyProof.Rows hiding St
local macro_rules | `(tactic| simp_all! only [$ts,*]) => `(tactic| simp only [w_def, w_thenS, w_if, w_test, w_bool, w_op, w_prim, w_cons, w_nil, w_name, w_c, w_pure, w_br, w_seqT, w_lst, w_chain, w_part, w_pureO, w_slice, w_drop, w_ret, w_retN, w_set, w_move, w_raise, w_asg, w_parN, w_par, w_plName, w_plFld, w_setF, w_setI, w_ddel, w_safe, w_callW, w_kNo, w_kLw, w_callR, w_methR, w_methW, w_methWK, w_nx, w_bk, w_ct, w_rt, w_ok, w_err, w_oerr, gmName, List.length_cons, List.length_nil, List.replicate, List.cons_append, List.nil_append, List.getElem?_cons_zero, List.getElem?_cons_succ, List.set_cons_zero, List.set_cons_succ, List.map_cons, List.map_nil, rdW_own, rdW_vw, mvW_own, Bool.true_or, Bool.false_or, Bool.or_true, true_and, and_true, t_own, t_vw, h_own, keep_own, fz_own, oW_some, oW_ite, bW_some, tW_some, tW_ite, T.bool, Option.map_some, finP, setN, Nat.zero_lt_succ, Nat.reduceLT, Nat.reduceAdd, Nat.reduceLeDiff, getK_hd, id_eq, prep, back, sfW, Bool.and_true, Bool.true_and, decide_true, decide_eq_true_eq, if_true, if_false, ite_true, ite_false, Bool.false_eq_true, eq_self, $ts,*])
local macro_rules | `(tactic| simp! only [$ts,*]) => `(tactic| simp only [w_def, w_if, w_test, w_bool, w_op, w_prim, w_cons, w_nil, w_name, w_c, w_pure, w_br, w_seqT, w_lst, w_chain, w_part, w_pureO, w_slice, w_drop, w_ret, w_retN, w_set, w_move, w_raise, w_asg, w_parN, w_par, w_plName, w_plFld, w_setF, w_setI, w_ddel, w_safe, w_callW, w_kNo, w_kLw, w_callR, w_methR, w_methW, w_methWK, w_nx, w_bk, w_ct, w_rt, w_ok, w_err, w_oerr, gmName, List.length_cons, List.length_nil, List.replicate, List.cons_append, List.nil_append, List.getElem?_cons_zero, List.getElem?_cons_succ, List.set_cons_zero, List.set_cons_succ, List.map_cons, List.map_nil, rdW_own, rdW_vw, mvW_own, Bool.true_or, Bool.false_or, Bool.or_true, true_and, and_true, t_own, t_vw, h_own, keep_own, fz_own, oW_some, oW_ite, bW_some, tW_some, tW_ite, T.bool, Option.map_some, finP, setN, Nat.zero_lt_succ, Nat.reduceLT, Nat.reduceAdd, Nat.reduceLeDiff, getK_hd, id_eq, prep, back, sfW, Bool.and_true, Bool.true_and, decide_true, decide_eq_true_eq, if_true, if_false, ite_true, ite_false, Bool.false_eq_true, eq_self, $ts,*])
theorem memD_al {ws : List Str} (h : ∀ x ∈ ws, PyData.strOk x = true) : pMemD false [.lst true (ws.map T.str), enc (.tuple [(.list [(.str "begin")]), (.list [(.str "crash")]), (.list [(.str "clean")])])] = some (.own (.bl (decide (∃ w ∈ alone, ws = [w])))) := by
  have e1 : (T.lst true (ws.map T.str)).data = some (.list (ws.map PyData.str)) := by
    show (match T.dataA (ws.map T.str) with | some ds => some (PyData.list ds) | none => none) = _
    rw [strs_dataA]
  have e2 : (enc (.tuple [(.list [(.str "begin")]), (.list [(.str "crash")]), (.list [(.str "clean")])])).data = some (.tuple (alone.map fun w => PyData.list ([w].map PyData.str))) := by kernel_rfl
  have s1 := strs_sh h
  have s2 : SeqAt.shaped (.tuple (alone.map fun w => PyData.list ([w].map PyData.str))) = true := by decide +kernel
  have d1 : Nat.ble (PyData.list (ws.map PyData.str)).depth 60 = true := by
    obtain ⟨d, f1, f2, f3⟩ := T.ly_ok (t := .lst true (ws.map T.str)) (by
      rw [T.ly]
      exact lyA_all fun t q => by
        obtain ⟨x, hx, rfl⟩ := List.mem_map.mp q
        exact h x hx)
    rw [e1] at f1
    cases f1
    have : T.dpA (ws.map T.str) ≤ 0 := dpA_all fun t q => by
      obtain ⟨x, hx, rfl⟩ := List.mem_map.mp q
      exact Nat.le_refl _
    simp only [T.dp] at f3
    exact Nat.ble_eq_true_of_le (by omega)
  unfold pMemD
  dsimp only
  rw [e1, e2]
  dsimp only
  unfold memDx
  rw [if_pos (by rw [s1, s2, d1]; rfl)]
  have : ((alone.map fun w => PyData.list ([w].map PyData.str)).any fun z => PyData.eqv z (.list (ws.map PyData.str))) = decide (∃ w ∈ alone, ws = [w]) := by
    rw [Bool.eq_iff_iff, List.any_eq_true, decide_eq_true_iff]
    have he : ∀ w, PyData.eqv (.list ([w].map PyData.str)) (.list (ws.map PyData.str)) = decide ([w] = ws) := fun w => by
      rw [show PyData.eqv (.list ([w].map PyData.str)) (.list (ws.map PyData.str)) = PyData.eqvAll ([w].map PyData.str) (ws.map PyData.str) by simp only [PyData.eqv], eqvA_str]
    constructor
    · rintro ⟨z, hz, q⟩
      obtain ⟨w, hw, rfl⟩ := List.mem_map.mp hz
      rw [he] at q
      exact ⟨w, hw, (of_decide_eq_true q).symm⟩
    · rintro ⟨w, hw, rfl⟩
      exact ⟨_, List.mem_map.mpr ⟨w, hw, rfl⟩, by rw [he]; simp⟩
  rw [this]
  rfl
theorem deed_one {w l : Str} (hl : l.length ≤ 100000) (e : Txt.split l " " = [w]) (hs : PyData.strOk w = true) {Q : Ent → List Ent → Prop} {E : EK} (k : ∀ e r, (e = .own (opT [w]) ∨ e = .vw (opT [w])) → Q e r) : (F_law_deed_of [.own (.str l)]).w Q E := by
  have es := split_sp hl
  rw [e] at es
  have em := memD_al (ws := [w]) (fun x q => by rw [List.mem_singleton.mp q]; exact hs)
  have e0 : decide (∃ v ∈ alone, [w] = [v]) = decide (w ∈ alone) := decide_eq_decide.mpr ⟨fun ⟨v, h1, h2⟩ => by injection h2 with h2; rw [h2]; exact h1, fun h => ⟨w, h, rfl⟩⟩
  rw [e0] at em
  rw [List.map_cons, List.map_nil] at es em
  have kl : (Ent.own (.lst true [T.str w])).keep = some (.lst true [.str w]) := rfl
  have kn : (Ent.own .non).keep = some .non := rfl
  have i1 : pIs [.non, .non] = some (.own (.bl true)) := rfl
  have hk : opT [w] = if w ∈ alone then .tup [.str w] else .non := rfl
  rw [hk] at k
  unfold F_law_deed_of
  simp! only [gmName]
  rw [w_thenS]
  simp! only [w_m1, T.asS, es, kl]
  rw [w_thenS]
  refine O.w_nxR (I := fun ρ => w ∉ alone ∧ ρ = [.own (.str l), .own (.lst true [.str w]), .no, .no, .no, .no]) ?_ ?_
  · simp_all! only [em, itL_0, fzAll, Ent.fz, T.isF]
    split
    · rename_i q
      rw [if_pos q] at k
      exact ⟨by decide, k _ _ (.inl rfl)⟩
    · rename_i q
      exact q
  rintro ρ ⟨hn, rfl⟩
  rw [if_neg hn] at k
  dsimp only
  rw [w_thenS]
  refine O.w_nxR (I := fun ρ => ρ = [.own (.str l), .own (.lst true [.str w]), .no, .no, .no, .no]) ?_ ?_
  · simp_all! only [pLen, oI, List.length_cons, List.length_nil, eq_ints]
    rw [if_neg (by decide)]
    exact trivial
  rintro ρ rfl
  dsimp only
  rw [w_thenS]
  simp! only [pLen, oI, List.length_cons, List.length_nil, pGt, oB, kn]
  rw [if_neg (by decide)]
  simp_all! only [kn, i1]
  exact k _ _ (.inl rfl)
theorem opT_non {w a : Str} {rest : List Str} (h : ¬ (w = "horizon" ∧ rest = [])) (hi : inR 1 1000000 (numT a) = .non) : opT (w :: a :: rest) = .non := by
  unfold opT
  split
  · rename_i q; injection q with q1 q2; cases q2
  · rename_i q; injection q with q1 q2; injection q2 with q3 q4
    subst q1; subst q3
    split
    · rfl
    · rw [if_neg (fun z => h ⟨z, q4⟩), hi]
      split <;> rfl
  · rename_i q; injection q with q1 q2; injection q2 with q3 q4
    subst q3
    rw [hi]
    split <;> rfl
  · rename_i q; injection q with q1 q2; injection q2 with q3 q4
    subst q3
    rw [hi]
    split <;> rfl
  · rfl
theorem not_al {w : Str} (h : w ∈ alone) : w ≠ "horizon" ∧ w ≠ "lock" ∧ w ≠ "change" ∧ w ∉ six := by
  simp only [alone, List.mem_cons, List.not_mem_nil, or_false] at h
  rcases h with rfl | rfl | rfl <;> decide +kernel
theorem six_ne {w : Str} (h : w ∈ six) : w ∉ alone ∧ w ≠ "horizon" ∧ w ≠ "lock" ∧ w ≠ "change" := by
  simp only [six, List.mem_cons, List.not_mem_nil, or_false] at h
  rcases h with rfl | rfl | rfl | rfl | rfl | rfl <;> decide +kernel
theorem ne_i2 {a b : Int} : pNe [.int a, .int b] = some (.own (.bl (!decide (a = b)))) := by
  have e1 : ∀ a : Int, (T.int a).data = some (.int a) := fun _ => rfl
  have s1 : ∀ a : Int, SeqAt.shaped (.int a) = true := fun a => by simp [SeqAt.shaped, PyData.canLay0, PyData.depth]
  unfold pNe
  simp only [e1, s1, Bool.and_self, if_true]
  have : PyData.eqv (.int a) (.int b) = decide (a = b) := by
    simp only [PyData.eqv]
    by_cases h : a = b
    · subst h; simp
    · simp [h]
  rw [this]
theorem deed_more {w a l : Str} {rest : List Str} (hl : l.length ≤ 100000) (e : Txt.split l " " = w :: a :: rest) (hn : rest.length ≤ 90000) (hw : ∀ x ∈ w :: a :: rest, x.length ≤ 100000 ∧ PyData.strOk x = true) {Q : Ent → List Ent → Prop} {E : EK} (k : ∀ e r, (e = .own (opT (w :: a :: rest)) ∨ e = .vw (opT (w :: a :: rest))) → Q e r) : (F_law_deed_of [.own (.str l)]).w Q E := by
  have es := split_sp hl
  rw [e] at es
  have em := memD_al (ws := w :: a :: rest) fun x q => (hw x q).2
  rw [decide_eq_false (fun ⟨v, _, q⟩ => by injection q with _ q; cases q)] at em
  rw [List.map_cons, List.map_cons] at es em
  have kl : ∀ us, (Ent.own (.lst true us)).keep = some (.lst true us) := fun _ => rfl
  have kn : (Ent.own .non).keep = some .non := rfl
  have ki : ∀ n, (Ent.own (.int n)).keep = some (.int n) := fun _ => rfl
  have ea : ∀ x, (Ent.vw (.str x)).arg = .own (.str x) := fun _ => rfl
  have ei : ∀ x, (Ent.own (.int x)).arg = .own (.int x) := fun _ => rfl
  have i1 : pIs [.non, .non] = some (.own (.bl true)) := rfl
  have i2 : ∀ n, pIs [.int n, .non] = some (.own (.bl false)) := fun _ => rfl
  have e6 : pPow [.int 10, .int 6] = some (.own (.int 1000000)) := by kernel_rfl
  have fs : ∀ x, Ent.fz (.own (.str x)) = some (.str x) := fun _ => rfl
  have fv : ∀ x, Ent.fz (.vw (.str x)) = some (.str x) := fun _ => rfl
  have fi : ∀ x, Ent.fz (.vw (.int x)) = some (.int x) := fun _ => rfl
  have hal := (hw a (by simp))
  unfold F_law_deed_of
  simp! only [gmName]
  rw [w_thenS]
  simp! only [w_m1, T.asS, es, kl]
  rw [w_thenS]
  refine O.w_nx (I := fun ρ => ρ = [.own (.str l), .own (.lst true (.str w :: .str a :: rest.map T.str)), .no, .no, .no, .no]) ?_ ?_
  · simp_all! only [em]
  rintro ρ rfl
  dsimp only
  rw [w_thenS]
  refine O.w_nxR (I := fun ρ => ¬ (w = "horizon" ∧ rest = []) ∧ ρ = [.own (.str l), .own (.lst true (.str w :: .str a :: rest.map T.str)), .no, .no, .no, .no]) ?_ ?_
  · by_cases hh : w = "horizon" ∧ rest = []
    · obtain ⟨h1, rfl⟩ := hh
      have ho : opT [w, a] = wr (fun n => .tup [.str w, n]) (inR 0 60 (numT a)) := by
        show (if w ∈ alone then T.non else if w = "horizon" then wr (fun n => .tup [.str w, n]) (inR 0 60 (numT a)) else _) = _
        rw [if_neg (fun q => (not_al q).1 h1), if_pos h1]
      rw [ho] at k
      simp_all! only [pLen, oI, List.length_cons, List.length_nil, List.map_nil, eq_ints, itL_0, itL_1, eq_strs, ea, ei]
      rw [if_pos (by decide), if_pos h1]
      refine lnumber_t hal.1 hal.2 fun r => ?_
      rcases inR_n (lo := 0) (hi := 60) (numT_NI a) with ⟨q1, _⟩ | ⟨q1, _, n, q2⟩
      · rw [q1] at k ⊢
        simp_all! only [kn, i1]
        exact k _ _ (.inl rfl)
      · rw [q1, q2] at k ⊢
        simp_all! only [ki, i2, fzAll, fs, fi]
        rw [← h1]
        exact ⟨by decide, k _ _ (.inl rfl)⟩
    · simp_all! only [pLen, oI, List.length_cons, List.length_map, eq_ints, itL_0, eq_strs]
      by_cases b : rest.length = 0
      · rw [if_pos (by omega), if_neg (fun q => hh ⟨q, List.length_eq_zero_iff.mp b⟩)]
        exact hh
      · rw [if_neg (by omega)]
        exact hh
  rintro ρ ⟨hh, rfl⟩
  dsimp only
  rw [w_thenS]
  simp! only [pLen, oI, List.length_cons, List.length_map, pGt, oB]
  rw [if_pos (by omega)]
  simp! only [itL_1, ea, ei, e6]
  refine lnumber_t hal.1 hal.2 fun r => ?_
  rcases inR_n (lo := 1) (hi := 1000000) (numT_NI a) with ⟨q1, _⟩ | ⟨q1, _, n, q2⟩
  · rw [opT_non hh q1] at k
    rw [q1]
    simp_all! only [kn, i1]
    exact k _ _ (.inl rfl)
  rw [q1, q2]
  rw [q2] at q1
  simp! only [ki]
  rw [w_thenS]
  refine O.w_nx (I := fun ρ => ρ = [.own (.str l), .own (.lst true (.str w :: .str a :: rest.map T.str)), .no, .own (.int n), .no, .no]) ?_ ?_
  · simp_all! only [i2]
  rintro ρ rfl
  dsimp only
  rw [w_thenS]
  refine O.w_nxR (I := fun ρ => w ∉ six ∧ ρ = [.own (.str l), .own (.lst true (.str w :: .str a :: rest.map T.str)), .no, .own (.int n), .no, .no]) ?_ ?_
  · have em6 : pMem false [.str w, enc (.tuple [(.str "save"), (.str "release"), (.str "back"), (.str "commit"), (.str "abort"), (.str "prepare")])] = some (.own (.bl (decide (w ∈ six)))) := by
      show (some (inV (.str w) (six.map V.str))).map (fun k => Ent.own (.bl k)) = _
      rw [inV_str, any_mem2]
      rfl
    simp_all! only [itL_0, em6]
    by_cases h6 : w ∈ six
    · rw [if_pos h6]
      obtain ⟨g1, g2, g3, g4⟩ := six_ne h6
      simp_all! only [pLen, oI, List.length_cons, List.length_map, eq_ints, fzAll, fv, fi]
      by_cases b : rest.length = 0
      · have hr := List.length_eq_zero_iff.mp b
        subst hr
        have ho : opT [w, a] = .tup [.str w, .int n] := by
          show (if w ∈ alone then T.non else if w = "horizon" then _ else if w ∈ six then wr (fun n => .tup [.str w, n]) (inR 1 1000000 (numT a)) else _) = _
          rw [if_neg g1, if_neg g2, if_pos h6, q2, q1]
          rfl
        rw [ho] at k
        rw [if_pos (by decide)]
        exact ⟨by decide, k _ _ (.inl rfl)⟩
      · have ho : opT (w :: a :: rest) = .non := by
          cases rest with
          | nil => exact absurd rfl b
          | cons y ys =>
            unfold opT
            split
            · rename_i q; injection q with q1 q2; cases q2
            · rename_i q; injection q with q1 q2; injection q2 with q3 q4; cases q4
            · rename_i q; injection q with q1 q2; subst q1; rw [if_neg (fun z => g3 z.1)]
            · rename_i q; injection q with q1 q2; subst q1; rw [if_neg (fun z => g4 z.1)]
            · rfl
        rw [ho] at k
        rw [if_neg (by omega)]
        exact k _ _ (.inl rfl)
    · rw [if_neg h6]
      exact h6
  rintro ρ ⟨h6, rfl⟩
  dsimp only
  rw [w_thenS]
  refine O.w_nx (I := fun ρ => ρ = [.own (.str l), .own (.lst true (.str w :: .str a :: rest.map T.str)), .no, .own (.int n), .own (.int (if w = "lock" then 4 else if w = "change" then 5 else 0)), .no]) ?_ ?_
  · simp_all! only [itL_0, w_get2, T.key, w_disp, w_dCons, w_dNil]
    have kp : keepP [((.inr "lock" : Key), Ent.own (.int 4)), (.inr "change", .own (.int 5))] = some [(.inr "lock", .int 4), (.inr "change", .int 5)] := rfl
    rw [kp]
    refine ⟨⟨by decide +kernel, by decide⟩, ?_⟩
    by_cases b1 : w = "lock"
    · have g : getK [((.inr "lock" : Key), T.int 4), (.inr "change", .int 5)] (.inr w) = some (.int 4) := by rw [b1]; exact getK_hd
      rw [g, if_pos b1]
      exact ⟨rfl, rfl⟩
    · by_cases b2 : w = "change"
      · have g : getK [((.inr "lock" : Key), T.int 4), (.inr "change", .int 5)] (.inr w) = some (.int 5) := by
          rw [getK_tl (fun z => b1 (Sum.inr.inj z).symm), b2]; exact getK_hd
        rw [g, if_neg b1, if_pos b2]
        exact ⟨rfl, rfl⟩
      · have g : getK [((.inr "lock" : Key), T.int 4), (.inr "change", .int 5)] (.inr w) = none := by
          rw [getK_tl (fun z => b1 (Sum.inr.inj z).symm), getK_tl (fun z => b2 (Sum.inr.inj z).symm)]; rfl
        rw [g, if_neg b1, if_neg b2]
        rfl
  rintro ρ rfl
  dsimp only
  by_cases A : w = "lock" ∧ rest.length = 2
  · obtain ⟨hA, h2⟩ := A
    obtain ⟨x, m, rfl⟩ := len2 h2
    have hx := hw x (by simp)
    have ho : opT [w, a, x, m] = if nmB x = true ∧ m ∈ mds then .tup [.str w, .int n, .str x, .str m] else .non := by
      show (if w = "lock" ∧ nmB x = true ∧ m ∈ mds then wr (fun n => .tup [.str w, n, .str x, .str m]) (inR 1 1000000 (numT a)) else .non) = _
      rw [q2, q1]
      by_cases g : nmB x = true ∧ m ∈ mds
      · rw [if_pos ⟨hA, g⟩, if_pos g]; rfl
      · rw [if_neg (fun q => g q.2), if_neg g]
    rw [ho] at k
    rw [if_pos hA]
    simp_all! only [pLen, oI, List.length_cons, List.length_nil, List.map_cons, List.map_nil, ne_i2, itL_2, ea]
    rw [if_neg (by decide)]
    refine lname_t hx.1 hx.2 fun r => ?_
    cases hb : nmB x with
    | false =>
      rw [hb, if_neg (fun q => Bool.noConfusion q.1)] at k
      simp_all! only [T.tru]
      exact k _ _ (.inl rfl)
    | true =>
      rw [hb] at k
      have c1 : pEq2 [.int 4, .int 5] = some (.own (.bl false)) := by kernel_rfl
      have c2 : pInt2 [.bl false] = some (.own (.int 0)) := rfl
      have c3 : pMul [.int 2, .int 0] = some (.own (.int 0)) := rfl
      have c4 : pSl (some 0) none [enc (.list [(.str "hold"), (.str "keep"), (.str "change"), (.str "replace")])] = some (.own (.lst true (mds.map T.str))) := by kernel_rfl
      have c5 : pMem true [.str m, .lst true (mds.map T.str)] = some (.own (.bl (!decide (m ∈ mds)))) := by
        show (some (!inV (.str m) (mds.map V.str))).map (fun k => Ent.own (.bl k)) = _
        rw [inV_str, any_mem2]
        rfl
      simp_all! only [T.tru, itL_3, c1, c2, c3, c4, c5]
      by_cases g : m ∈ mds
      · rw [if_pos ⟨rfl, g⟩] at k
        rw [decide_eq_true g, if_neg (by decide)]
        simp_all! only [eq_ints, fzAll, fs, fv, fi, itL_3]
        rw [← hA]
        exact ⟨by decide, k _ _ (.inl rfl)⟩
      · rw [if_neg (fun q => g q.2)] at k
        rw [decide_eq_false g, if_pos (by decide)]
        exact k _ _ (.inl rfl)
  by_cases B : w = "change" ∧ rest.length = 3
  · obtain ⟨hB, h3⟩ := B
    obtain ⟨x, m, v, rfl⟩ := len3 h3
    have hx := hw x (by simp)
    have hv := hw v (by simp)
    have hnl : w ≠ "lock" := by rw [hB]; decide +kernel
    have ho : opT [w, a, x, m, v] = if nmB x = true ∧ m ∈ cmds then wr (fun z => .tup [.str w, .int n, .str x, .str m, z]) (valT v) else .non := by
      show (if w = "change" ∧ nmB x = true ∧ m ∈ cmds then wr (fun n => wr (fun z => .tup [.str w, n, .str x, .str m, z]) (valT v)) (inR 1 1000000 (numT a)) else .non) = _
      rw [q2, q1]
      by_cases g : nmB x = true ∧ m ∈ cmds
      · rw [if_pos ⟨hB, g⟩, if_pos g]; rfl
      · rw [if_neg (fun q => g q.2), if_neg g]
    rw [ho] at k
    rw [if_neg hnl, if_pos hB]
    simp_all! only [pLen, oI, List.length_cons, List.length_nil, List.map_cons, List.map_nil, ne_i2, itL_2, ea]
    rw [if_neg (by decide)]
    refine lname_t hx.1 hx.2 fun r => ?_
    cases hb : nmB x with
    | false =>
      rw [hb, if_neg (fun q => Bool.noConfusion q.1)] at k
      simp_all! only [T.tru]
      exact k _ _ (.inl rfl)
    | true =>
      rw [hb] at k
      have c0 : pEq2 [.int 5, .int 4] = some (.own (.bl false)) := by kernel_rfl
      have c1 : pEq2 [.int 5, .int 5] = some (.own (.bl true)) := by kernel_rfl
      have c2 : pInt2 [.bl true] = some (.own (.int 1)) := rfl
      have c3 : pMul [.int 2, .int 1] = some (.own (.int 2)) := rfl
      have c4 : pSl (some 2) none [enc (.list [(.str "hold"), (.str "keep"), (.str "change"), (.str "replace")])] = some (.own (.lst true (cmds.map T.str))) := by kernel_rfl
      have c5 : pMem true [.str m, .lst true (cmds.map T.str)] = some (.own (.bl (!decide (m ∈ cmds)))) := by
        show (some (!inV (.str m) (cmds.map V.str))).map (fun k => Ent.own (.bl k)) = _
        rw [inV_str, any_mem2]
        rfl
      simp_all! only [T.tru, itL_3, c1, c2, c3, c4, c5]
      by_cases g : m ∈ cmds
      · rw [if_pos ⟨rfl, g⟩] at k
        rw [decide_eq_true g, if_neg (by decide)]
        simp_all! only [c0, itL_4, ea]
        refine lvalue_t hv.1 hv.2 fun r => ?_
        rcases valT_ok v with q | ⟨z, q, _⟩
        · rw [q] at k ⊢
          simp_all! only [kn, i1]
          exact k _ _ (.inl rfl)
        · rw [q] at k ⊢
          simp_all! only [ki, i2, fzAll, fs, fv, fi, itL_3]
          rw [← hB]
          exact ⟨by decide, k _ _ (.inl rfl)⟩
      · rw [if_neg (fun q => g q.2)] at k
        rw [decide_eq_false g, if_pos (by decide)]
        exact k _ _ (.inl rfl)
  have ho : opT (w :: a :: rest) = .non := by
    unfold opT
    split
    · rename_i q; injection q with q1 q2; cases q2
    · rename_i q; injection q with q1 q2; injection q2 with q3 q4
      subst q1
      split
      · rfl
      · rw [if_neg (fun z => hh ⟨z, q4⟩)]
    · rename_i q; injection q with q1 q2; injection q2 with q3 q4
      subst q1
      rw [if_neg (fun z => A ⟨z.1, by rw [q4]; rfl⟩)]
    · rename_i q; injection q with q1 q2; injection q2 with q3 q4
      subst q1
      rw [if_neg (fun z => B ⟨z.1, by rw [q4]; rfl⟩)]
    · rfl
  rw [ho] at k
  have hs : ¬ (((rest.length + 1 + 1 : Nat) : Int) = if w = "lock" then 4 else if w = "change" then 5 else 0) := by
    split
    · rename_i b; exact fun q => A ⟨b, by omega⟩
    · split
      · rename_i b; exact fun q => B ⟨b, by omega⟩
      · omega
  simp_all! only [pLen, oI, List.length_cons, List.length_map, ne_i2]
  rw [decide_eq_false hs, if_pos (by decide)]
  exact k _ _ (.inl rfl)
end Rm
namespace Rm
open PySem PySem.Spec L2
open PyProof.Rows hiding St
def kws : List Str := alone ++ (six ++ (mds ++ (["lock", "horizon", "change"] : List Str)))
theorem fine_kw {w : Str} (h : w ∈ kws) : FineT 2000 5 (.str w) := fineTB_ok (List.all_eq_true.mp (show (kws.all fun w => fineTB 2000 5 (.str w)) = true by decide +kernel) w h)
theorem fine_nm {x : Str} (h : nmB x = true) : FineT 2000 5 (.str x) := by
  unfold nmB at h
  simp only [Bool.and_eq_true, decide_eq_true_eq, List.all_eq_true] at h
  exact ⟨.str x, rfl, fine_str (fun c hc => by have := of_decide_eq_true (h.2 c hc); omega) (by omega)⟩
theorem fine_num {n : Int} (h : n.natAbs < 10 ^ 30) : FineT 2000 5 (.int n) := fineT_int (by omega) (by omega)
theorem inR_b {lo hi : Int} {a : Str} : inR lo hi (numT a) = .non ∨ ∃ n : Int, inR lo hi (numT a) = .int n ∧ n.natAbs < 10 ^ 30 := by
  rcases numT_cases a with e | ⟨n, e, b1, b2⟩
  · rw [e]; exact .inl rfl
  · rw [e]
    by_cases h : lo ≤ n ∧ n ≤ hi
    · exact .inr ⟨n, if_pos h, by omega⟩
    · exact .inl (if_neg h)
theorem fine_tupL {ps : List T} (h : ∀ t ∈ ps, FineT 2000 5 t) (hl : ps.length ≤ 5) : FineT 10014 6 (.tup ps) := (fineT_tup (m := 5) h hl).mono (by omega) (by omega)
theorem opT_form (ws : List Str) : opT ws = .non ∨ ∃ ps, opT ws = .tup ps ∧ T.isFA ps = true ∧ FineT 10014 6 (.tup ps) := by
  unfold opT
  split
  · rename_i w
    split
    · rename_i h
      exact .inr ⟨_, rfl, rfl, fine_tupL (fun t q => by rw [List.mem_singleton.mp q]; exact fine_kw (by simp [kws, h])) (by simp)⟩
    · exact .inl rfl
  · rename_i w a
    split
    · exact .inl rfl
    · split
      · rename_i h
        rcases inR_b (lo := 0) (hi := 60) (a := a) with e | ⟨n, e, hn⟩
        · rw [e]; exact .inl rfl
        · rw [e]
          refine .inr ⟨_, rfl, rfl, fine_tupL (fun t q => ?_) (by simp)⟩
          simp only [List.mem_cons, List.not_mem_nil, or_false] at q
          rcases q with rfl | rfl
          · exact fine_kw (by simp [kws, h])
          · exact fine_num hn
      · split
        · rename_i h
          rcases inR_b (lo := 1) (hi := 1000000) (a := a) with e | ⟨n, e, hn⟩
          · rw [e]; exact .inl rfl
          · rw [e]
            refine .inr ⟨_, rfl, rfl, fine_tupL (fun t q => ?_) (by simp)⟩
            simp only [List.mem_cons, List.not_mem_nil, or_false] at q
            rcases q with rfl | rfl
            · exact fine_kw (by simp [kws, h])
            · exact fine_num hn
        · exact .inl rfl
  · rename_i w a x m
    split
    · rename_i h
      rcases inR_b (lo := 1) (hi := 1000000) (a := a) with e | ⟨n, e, hn⟩
      · rw [e]; exact .inl rfl
      · rw [e]
        refine .inr ⟨_, rfl, rfl, fine_tupL (fun t q => ?_) (by simp)⟩
        simp only [List.mem_cons, List.not_mem_nil, or_false] at q
        rcases q with rfl | rfl | rfl | rfl
        · exact fine_kw (by simp [kws, h.1])
        · exact fine_num hn
        · exact fine_nm h.2.1
        · exact fine_kw (by simp [kws, h.2.2])
    · exact .inl rfl
  · rename_i w a x m v
    split
    · rename_i h
      have hm : m ∈ mds := by
        have := h.2.2
        simp only [cmds, List.mem_cons, List.not_mem_nil, or_false] at this
        rcases this with rfl | rfl <;> simp [mds]
      rcases inR_b (lo := 1) (hi := 1000000) (a := a) with e | ⟨n, e, hn⟩
      · rw [e]; exact .inl rfl
      · rw [e]
        rcases valT_ok v with q | ⟨z, q, hz⟩
        · rw [q]; exact .inl rfl
        · rw [q]
          refine .inr ⟨_, rfl, rfl, fine_tupL (fun t q => ?_) (by simp)⟩
          simp only [List.mem_cons, List.not_mem_nil, or_false] at q
          rcases q with rfl | rfl | rfl | rfl | rfl
          · exact fine_kw (by simp [kws, h.1])
          · exact fine_num hn
          · exact fine_nm h.2.1
          · exact fine_kw (by simp [kws, hm])
          · exact fine_num hz
    · exact .inl rfl
  · exact .inl rfl
/-- a plain line: no matter what it says, it can be split and asked -/
def Lp (l : Str) : Prop := l.length ≤ 80000 ∧ PyData.strOk l = true
theorem strOk_all {x : Str} : PyData.strOk x = true ↔ ∀ c ∈ x.cps.toList, c < 1114112 := by
  unfold PyData.strOk
  rw [← Array.all_toList, List.all_eq_true]
  constructor
  · exact fun h c hc => of_decide_eq_true (h c hc)
  · exact fun h c hc => decide_eq_true (h c hc)
theorem join_parts {c : Nat} : ∀ {ls : List Str}, (ls ≠ [] → (Str.join ⟨#[c]⟩ ls).length + 1 = (ls.map fun x => x.length + 1).sum) ∧ ∀ p ∈ ls, ∀ d ∈ p.cps.toList, d ∈ (Str.join ⟨#[c]⟩ ls).cps.toList
  | [] => ⟨fun h => absurd rfl h, fun _ q => nomatch q⟩
  | [x] => ⟨fun _ => by show x.length + 1 = _; simp, fun p q d hd => by rw [List.mem_singleton.mp q] at hd; exact hd⟩
  | x :: y :: l => by
    obtain ⟨a, b⟩ := join_parts (c := c) (ls := y :: l)
    have e : Str.join ⟨#[c]⟩ (x :: y :: l) = x ++ ⟨#[c]⟩ ++ Str.join ⟨#[c]⟩ (y :: l) := rfl
    refine ⟨fun _ => ?_, fun p q d hd => ?_⟩
    · have := a (by simp)
      rw [e, len_tl, app_tl, app_tl]
      rw [len_tl] at this
      simp only [List.length_append, List.map_cons, List.sum_cons] at this ⊢
      have h1 : (⟨#[c]⟩ : Str).cps.toList.length = 1 := rfl
      rw [h1, len_tl x]
      omega
    · rw [e, app_tl, app_tl]
      rcases List.mem_cons.mp q with rfl | q
      · exact List.mem_append_left _ (List.mem_append_left _ hd)
      · exact List.mem_append_right _ (b p q d hd)
theorem sum_mem {x : Str} : ∀ {ls : List Str}, x ∈ ls → x.length + 1 ≤ (ls.map fun x => x.length + 1).sum
  | y :: ls, h => by
    rw [List.map_cons, List.sum_cons]
    rcases List.mem_cons.mp h with rfl | h
    · omega
    · have := sum_mem h
      omega
theorem sum_len : ∀ ls : List Str, ls.length ≤ (ls.map fun x => x.length + 1).sum
  | [] => Nat.le_refl _
  | y :: ls => by
    rw [List.map_cons, List.sum_cons, List.length_cons]
    have := sum_len ls
    omega
theorem split_parts (x : Str) (c : Nat) : ((Txt.split x ⟨#[c]⟩).map fun x => x.length + 1).sum = x.length + 1 ∧ (Txt.split x ⟨#[c]⟩).length ≤ x.length + 1 ∧ ∀ p ∈ Txt.split x ⟨#[c]⟩, p.length ≤ x.length ∧ (PyData.strOk x = true → PyData.strOk p = true) := by
  obtain ⟨a, b⟩ := join_parts (c := c) (ls := Txt.split x ⟨#[c]⟩)
  rw [StrLaws.join_split] at a b
  have h := (a (split_ne _ _)).symm
  refine ⟨h, ?_, fun p q => ⟨?_, fun hx => strOk_all.mpr fun d hd => strOk_all.mp hx d (b p q d hd)⟩⟩
  · rw [← h]; exact sum_len _
  · have := sum_mem q
    omega
theorem operation_in_t {l : Str} (hl : Lp l) {Q : Ent → List Ent → Prop} {E : EK} (k : ∀ e r, (e = .own (opT (Txt.split l " ")) ∨ e = .vw (opT (Txt.split l " "))) → Q e r) : (F_operation_in [.own (.str l)]).w Q E := by
  obtain ⟨_, h1, h2⟩ := split_parts l 32
  rw [← sp_e] at h1 h2
  obtain ⟨hl1, hl2⟩ := hl
  cases e : Txt.split l " " with
  | nil => exact absurd e (split_ne _ _)
  | cons w ws =>
    rw [e] at k h1 h2
    cases ws with
    | nil => exact op_one (by omega) e ((h2 w (by simp)).2 hl2) k
    | cons a rest =>
      simp only [List.length_cons] at h1
      exact op_more (by omega) e (by omega) (fun x q => ⟨by have := (h2 x q).1; omega, (h2 x q).2 hl2⟩) k
theorem deed_of_t {l : Str} (hl : Lp l) {Q : Ent → List Ent → Prop} {E : EK} (k : ∀ e r, (e = .own (opT (Txt.split l " ")) ∨ e = .vw (opT (Txt.split l " "))) → Q e r) : (F_law_deed_of [.own (.str l)]).w Q E := by
  obtain ⟨_, h1, h2⟩ := split_parts l 32
  rw [← sp_e] at h1 h2
  obtain ⟨hl1, hl2⟩ := hl
  cases e : Txt.split l " " with
  | nil => exact absurd e (split_ne _ _)
  | cons w ws =>
    rw [e] at k h1 h2
    cases ws with
    | nil => exact deed_one (by omega) e ((h2 w (by simp)).2 hl2) k
    | cons a rest =>
      simp only [List.length_cons] at h1
      exact deed_more (by omega) e (by omega) (fun x q => ⟨by have := (h2 x q).1; omega, (h2 x q).2 hl2⟩) k
end Rm
namespace Rm
open PySem PySem.Spec L2
open PyProof.Rows hiding St
local macro_rules | `(tactic| simp_all! only [$ts,*]) => `(tactic| simp only [w_def, w_thenS, w_if, w_test, w_bool, w_op, w_prim, w_cons, w_nil, w_name, w_c, w_pure, w_br, w_seqT, w_lst, w_chain, w_part, w_pureO, w_slice, w_drop, w_ret, w_retN, w_set, w_move, w_raise, w_asg, w_parN, w_par, w_plName, w_plFld, w_setF, w_setI, w_ddel, w_safe, w_callW, w_kNo, w_kLw, w_callR, w_methR, w_methW, w_methWK, w_nx, w_bk, w_ct, w_rt, w_ok, w_err, w_oerr, gmName, List.length_cons, List.length_nil, List.replicate, List.cons_append, List.nil_append, List.getElem?_cons_zero, List.getElem?_cons_succ, List.set_cons_zero, List.set_cons_succ, List.map_cons, List.map_nil, rdW_own, rdW_vw, mvW_own, Bool.true_or, Bool.false_or, Bool.or_true, true_and, and_true, t_own, t_vw, h_own, keep_own, fz_own, oW_some, oW_ite, bW_some, tW_some, tW_ite, T.bool, Option.map_some, finP, setN, Nat.zero_lt_succ, Nat.reduceLT, Nat.reduceAdd, Nat.reduceLeDiff, getK_hd, id_eq, prep, back, sfW, Bool.and_true, Bool.true_and, decide_true, decide_eq_true_eq, if_true, if_false, ite_true, ite_false, Bool.false_eq_true, eq_self, $ts,*])
local macro_rules | `(tactic| simp! only [$ts,*]) => `(tactic| simp only [w_def, w_if, w_test, w_bool, w_op, w_prim, w_cons, w_nil, w_name, w_c, w_pure, w_br, w_seqT, w_lst, w_chain, w_part, w_pureO, w_slice, w_drop, w_ret, w_retN, w_set, w_move, w_raise, w_asg, w_parN, w_par, w_plName, w_plFld, w_setF, w_setI, w_ddel, w_safe, w_callW, w_kNo, w_kLw, w_callR, w_methR, w_methW, w_methWK, w_nx, w_bk, w_ct, w_rt, w_ok, w_err, w_oerr, gmName, List.length_cons, List.length_nil, List.replicate, List.cons_append, List.nil_append, List.getElem?_cons_zero, List.getElem?_cons_succ, List.set_cons_zero, List.set_cons_succ, List.map_cons, List.map_nil, rdW_own, rdW_vw, mvW_own, Bool.true_or, Bool.false_or, Bool.or_true, true_and, and_true, t_own, t_vw, h_own, keep_own, fz_own, oW_some, oW_ite, bW_some, tW_some, tW_ite, T.bool, Option.map_some, finP, setN, Nat.zero_lt_succ, Nat.reduceLT, Nat.reduceAdd, Nat.reduceLeDiff, getK_hd, id_eq, prep, back, sfW, Bool.and_true, Bool.true_and, decide_true, decide_eq_true_eq, if_true, if_false, ite_true, ite_false, Bool.false_eq_true, eq_self, $ts,*])
/-- what the lines of a text tell, or the number of the first wrong one -/
def rd : Nat → List T → List Str → Sum Nat (List T)
  | _, acc, [] => .inr acc
  | m, acc, l :: ls => match opT (Txt.split l " ") with
    | .tup ps => if m = 60 then .inl (m + 1) else rd (m + 1) (acc ++ [.tup ps]) ls
    | _ => .inl (m + 1)
def outT : Sum Nat (List T) → T
  | .inl k => .lst true [.str "line", .int (k : Nat)]
  | .inr ts => .lst true [.str "told", .tup ts]
theorem frz_strs : ∀ xs : List Str, T.frzA (xs.map T.str) = xs.map T.str
  | [] => rfl
  | x :: xs => by rw [List.map_cons, T.frzA, frz_strs xs]; rfl
theorem lf_e : ("\n" : Str) = ⟨#[10]⟩ := by decide +kernel
theorem isi_s {x : Str} : pIsi "str" [.str x] = some (.own (.bl true)) := rfl
def lns (x : Str) : List Str := if x = "" then [] else Txt.split x "\n"
theorem lines_t {x : Str} (hl : Lp x) {ρ : List Ent} {Q : List T → List Ent → Prop} {E : EK} (k : Q (enumT 0 ((lns x).map T.str)) (.own (.str x) :: ρ)) :
    (mEnV (mBr (mTest T.bool (mOp pNe true (mName 0) (mC (.str "")))) (mM1 pSplit (mName 0) (mC (.str "\n"))) (mLst mNil)) (.own (.str x) :: ρ)).w Q E := by
  by_cases h : x = ""
  · have e1 : lns x = [] := if_pos h
    rw [e1] at k
    have e : pNe [.str x, .str ""] = some (.own (.bl false)) := by rw [ne_strs, decide_eq_true h]; rfl
    simp_all! only [w_enV, e, w_lst, keepAll, Ent.fz, T.frz, T.frzA]
    exact ⟨Nat.zero_le _, k⟩
  · have e1 : lns x = Txt.split x "\n" := if_neg h
    rw [e1] at k
    have e : pNe [.str x, .str ""] = some (.own (.bl true)) := by rw [ne_strs, decide_eq_false h]; rfl
    have e2 : pSplit [.str x, .str "\n"] = some (.own (.lst true ((Txt.split x "\n").map T.str))) := by
      show (if (("\n" : Str).length == 0) = false ∧ Nat.ble (x.length + 2) sizeLine = true then _ else none) = _
      rw [if_pos ⟨by decide +kernel, Nat.ble_eq_true_of_le (Nat.le_trans (show x.length + 2 ≤ 100002 by have := hl.1; omega) (by decide))⟩]
    have e3 := frz_strs (Txt.split x "\n")
    simp_all! only [w_enV, e, e2, w_m1, T.asS, Ent.fz, T.frz, e3]
    exact k
theorem lns_ok {x : Str} (h : Lp x) : ∀ l ∈ lns x, Lp l := fun l q => by
  unfold lns at q
  split at q
  · cases q
  · rw [lf_e] at q
    obtain ⟨a, b⟩ := (split_parts x 10).2.2 l q
    exact ⟨by have := h.1; omega, b h.2⟩
theorem fa_app1 {t : T} : ∀ {c : List T}, T.isFA c = true → t.isF = true → T.isFA (c ++ [t]) = true
  | [], _, h => by simp only [List.nil_append, T.isFA, h, Bool.and_self]
  | x :: c, h, h2 => by
    simp only [T.isFA, Bool.and_eq_true] at h
    simp only [List.cons_append, T.isFA, h.1, fa_app1 h.2 h2, Bool.and_self]
theorem add_i {a b : Int} : pAdd [.int a, .int b] = some (.own (.int (a + b))) := rfl
theorem history_of_t {x : Str} (h : Lp x) {Q : Ent → List Ent → Prop} {E : EK} (k : ∀ r, Q (.own (outT (rd 0 [] (lns x)))) r) : (F_law_history_of [.own (.str x)]).w Q E := by
  have hlo := lns_ok h
  unfold F_law_history_of
  simp! only [isi_s, T.tru]
  rw [w_thenS]
  simp! only [isi_s, T.tru]
  rw [w_thenS]
  simp! only [w_lst, keepAll]
  rw [w_thenS]
  refine ⟨Nat.zero_le _, ?_⟩
  rw [w_for]
  refine lines_t h ?_
  refine forM_w (fun us ρ => ∃ (m : Nat) (acc : List T) (ls : List Str) (r2 r3 r4 : Ent), (∀ l ∈ ls, Lp l) ∧ acc.length = m ∧ m ≤ 60 ∧ T.isFA acc = true ∧ rd m acc ls = rd 0 [] (lns x) ∧ us = enumT m (ls.map T.str) ∧ ρ = [.own (.str x), .own (.lst true acc), r2, r3, r4]) (fun ρ h => ?_) (fun z us ρ h => ?_) _ _ ⟨0, [], lns x, _, _, _, hlo, rfl, by omega, rfl, rfl, rfl, rfl⟩
  · obtain ⟨m, acc, ls, r2, r3, r4, h1, h2, h3, h4, h5, h6, rfl⟩ := h
    cases ls with
    | cons _ _ => exact nomatch h6
    | nil =>
      rw [← h5] at k
      have e3 : pTuple [.lst true acc] = some (.own (.tup acc)) := by
        show (if T.isFA acc = true then _ else _) = _
        rw [if_pos h4]
      simp_all! only [e3, w_lst, keepAll, Ent.keep]
      exact ⟨by decide, k _⟩
  · obtain ⟨m, acc, ls, r2, r3, r4, h1, h2, h3, h4, h5, h6, rfl⟩ := h
    cases ls with
    | nil => exact nomatch h6
    | cons l ls =>
      rw [List.map_cons, enumT] at h6
      obtain ⟨rfl, rfl⟩ := List.cons.inj h6
      have hg : ∀ a b c d e : Ent, gmTup 2 (gmCons (gmName 2) (gmCons (gmName 3) gmNil)) (.tup [.int (m : Nat), .str l]) [a, b, c, d, e] = some [a, b, .own (.int (m : Nat)), .own (.str l), e] := fun _ _ _ _ _ => rfl
      have ea : ∀ x, (Ent.vw (.str x)).arg = .own (.str x) := fun _ => rfl
      have i1 : pIs [.non, .non] = some (.own (.bl true)) := rfl
      have i2 : ∀ ps, pIs [.tup ps, .non] = some (.own (.bl false)) := fun _ => rfl
      simp! only [hg]
      rw [w_thenS]
      simp! only [ea]
      refine deed_of_t (h1 l (by simp)) fun e r he => ?_
      rw [rd] at h5
      rcases opT_form (Txt.split l " ") with e0 | ⟨ps, e0, hps, _⟩
      · rw [e0] at he h5
        rw [← h5] at k
        have hk : e.keep = some .non := by rcases he with rfl | rfl <;> rfl
        simp! only [hk]
        rw [w_thenS]
        simp_all! only [i1, w_lst, keepAll, Ent.keep, add_i]
        exact ⟨by decide, k _⟩
      · rw [e0] at he h5
        dsimp only at h5
        have hk : e.keep = some (.tup ps) := by
          rcases he with rfl | rfl
          · rfl
          · show (if _ then _ else _) = _
            rw [if_pos (by simpa [T.isF] using hps)]
        have hk2 : (Ent.vw (.tup ps)).keep = some (.tup ps) := by
          show (if _ then _ else _) = _
          rw [if_pos (by simpa [T.isF] using hps)]
        simp! only [hk]
        rw [w_thenS]
        simp_all! only [i2, eq_ints]
        by_cases hm : m = 60
        · rw [if_pos hm] at h5
          rw [← h5] at k
          rw [if_pos (by omega)]
          simp_all! only [w_lst, keepAll, Ent.keep, add_i]
          exact ⟨by decide, k _⟩
        · rw [if_neg hm] at h5
          rw [if_neg (by omega)]
          refine w_app rfl (lt_line (by omega)) ?_
          simp_all! only [hk2]
          exact ⟨m + 1, acc ++ [.tup ps], ls, _, _, _, fun l' q => h1 l' (by simp [q]), by simp [h2], by omega, fa_app1 h4 (by simpa [T.isF] using hps), h5, rfl, rfl⟩
theorem read_t {x : Str} (h : Lp x) {Q : Ent → List Ent → Prop} {E : EK} (k1 : ∀ ts, rd 0 [] (lns x) = .inr ts → ∀ r, Q (.own (.tup ts)) r) (k2 : ∀ n, rd 0 [] (lns x) = .inl n → ∀ r, E "BadText" (.int (n : Nat)) r) : (F_read_history [.own (.str x)]).w Q E := by
  have hlo := lns_ok h
  unfold F_read_history
  simp! only [isi_s, T.tru]
  rw [w_thenS]
  simp! only [isi_s, T.tru]
  rw [w_thenS]
  simp! only [w_lst, keepAll]
  rw [w_thenS]
  refine ⟨Nat.zero_le _, ?_⟩
  rw [w_for]
  refine lines_t h ?_
  refine forM_w (fun us ρ => ∃ (m : Nat) (acc : List T) (ls : List Str) (r2 r3 r4 : Ent), (∀ l ∈ ls, Lp l) ∧ acc.length = m ∧ m ≤ 60 ∧ T.isFA acc = true ∧ rd m acc ls = rd 0 [] (lns x) ∧ us = enumT m (ls.map T.str) ∧ ρ = [.own (.str x), .own (.lst true acc), r2, r3, r4]) (fun ρ h => ?_) (fun z us ρ h => ?_) _ _ ⟨0, [], lns x, _, _, _, hlo, rfl, by omega, rfl, rfl, rfl, rfl⟩
  · obtain ⟨m, acc, ls, r2, r3, r4, h1, h2, h3, h4, h5, h6, rfl⟩ := h
    cases ls with
    | cons _ _ => exact nomatch h6
    | nil =>
      have e3 : pTuple [.lst true acc] = some (.own (.tup acc)) := by
        show (if T.isFA acc = true then _ else _) = _
        rw [if_pos h4]
      simp_all! only [e3]
      exact k1 _ h5.symm _
  · obtain ⟨m, acc, ls, r2, r3, r4, h1, h2, h3, h4, h5, h6, rfl⟩ := h
    cases ls with
    | nil => exact nomatch h6
    | cons l ls =>
      rw [List.map_cons, enumT] at h6
      obtain ⟨rfl, rfl⟩ := List.cons.inj h6
      have hg : ∀ a b c d e : Ent, gmTup 2 (gmCons (gmName 2) (gmCons (gmName 3) gmNil)) (.tup [.int (m : Nat), .str l]) [a, b, c, d, e] = some [a, b, .own (.int (m : Nat)), .own (.str l), e] := fun _ _ _ _ _ => rfl
      have ea : ∀ x, (Ent.vw (.str x)).arg = .own (.str x) := fun _ => rfl
      have i1 : pIs [.non, .non] = some (.own (.bl true)) := rfl
      have i2 : ∀ ps, pIs [.tup ps, .non] = some (.own (.bl false)) := fun _ => rfl
      simp! only [hg]
      rw [w_thenS]
      simp! only [ea]
      refine operation_in_t (h1 l (by simp)) fun e r he => ?_
      rw [rd] at h5
      rcases opT_form (Txt.split l " ") with e0 | ⟨ps, e0, hps, _⟩
      · rw [e0] at he h5
        have hk : e.keep = some .non := by rcases he with rfl | rfl <;> rfl
        simp! only [hk]
        rw [w_thenS]
        simp_all! only [i1, add_i]
        exact k2 _ h5.symm _
      · rw [e0] at he h5
        dsimp only at h5
        have hk : e.keep = some (.tup ps) := by
          rcases he with rfl | rfl
          · rfl
          · show (if _ then _ else _) = _
            rw [if_pos (by simpa [T.isF] using hps)]
        have hk2 : (Ent.vw (.tup ps)).keep = some (.tup ps) := by
          show (if _ then _ else _) = _
          rw [if_pos (by simpa [T.isF] using hps)]
        simp! only [hk]
        rw [w_thenS]
        simp_all! only [i2, eq_ints]
        by_cases hm : m = 60
        · rw [if_pos hm] at h5
          rw [if_pos (by omega)]
          simp_all! only [add_i]
          exact k2 _ h5.symm _
        · rw [if_neg hm] at h5
          rw [if_neg (by omega)]
          refine w_app rfl (lt_line (by omega)) ?_
          simp_all! only [hk2]
          exact ⟨m + 1, acc ++ [.tup ps], ls, _, _, _, fun l' q => h1 l' (by simp [q]), by simp [h2], by omega, fa_app1 h4 (by simpa [T.isF] using hps), h5, rfl, rfl⟩
theorem found_t {x : Str} (h : Lp x) {Q : Ent → List Ent → Prop} {E : EK} (k : ∀ r, Q (.own (outT (rd 0 [] (lns x)))) r) : (F_law_found [.own (.str x)]).w Q E := by
  have ea : ∀ x, (Ent.vw (.str x)).arg = .own (.str x) := fun _ => rfl
  unfold F_law_found
  simp_all! only [w_try, w_lst, ea]
  refine read_t h (fun ts e r => ?_) (fun n e r => ?_)
  · rw [e] at k
    simp_all! only [keepAll, Ent.keep]
    exact ⟨by decide, k _⟩
  · rw [e] at k
    refine ⟨rfl, ?_⟩
    simp_all! only [w_out, w_exc, w_lst, keepAll, Ent.keep]
    rw [w_exc rfl]
    simp_all! only [gmName]
    exact ⟨by decide, k _⟩
theorem rd_ok : ∀ (ls : List Str) (m : Nat) (acc : List T), acc.length = m → m ≤ 60 → (∀ t ∈ acc, FineT 10014 6 t) → (∃ n, rd m acc ls = .inl n ∧ n ≤ 61) ∨ ∃ ts, rd m acc ls = .inr ts ∧ ts.length ≤ 60 ∧ ∀ t ∈ ts, FineT 10014 6 t
  | [], m, acc, h1, h2, h3 => .inr ⟨acc, rfl, by omega, h3⟩
  | l :: ls, m, acc, h1, h2, h3 => by
    rw [rd]
    rcases opT_form (Txt.split l " ") with e0 | ⟨ps, e0, _, hf⟩
    · rw [e0]
      exact .inl ⟨m + 1, rfl, by omega⟩
    · rw [e0]
      dsimp only
      by_cases hm : m = 60
      · rw [if_pos hm]
        exact .inl ⟨m + 1, rfl, by omega⟩
      · rw [if_neg hm]
        refine rd_ok ls (m + 1) _ (by simp [h1]) (by omega) fun t q => ?_
        rcases List.mem_append.mp q with q | q
        · exact h3 t q
        · rw [List.mem_singleton.mp q]; exact hf
theorem out_repr (ls : List Str) : pRepr [outT (rd 0 [] ls)] = some (.own (.str (outT (rd 0 [] ls)).sh)) := by
  have hw : ∀ w ∈ (["line", "told"] : List Str), FineT 2000 5 (.str w) := fun w h => fineTB_ok (List.all_eq_true.mp (show ((["line", "told"] : List Str).all fun w => fineTB 2000 5 (.str w)) = true by decide +kernel) w h)
  refine repr_t (n := 1201936) (k := 8) ?_ (by omega) (by omega)
  rcases rd_ok ls 0 [] rfl (by omega) (fun _ q => nomatch q) with ⟨n, e, hn⟩ | ⟨ts, e, hl, hf⟩
  · rw [e]
    refine (fineT_lst (n := 2000) (k := 5) (m := 2) (fun t q => ?_) (by simp)).mono (by omega) (by omega)
    simp only [List.mem_cons, List.not_mem_nil, or_false] at q
    rcases q with rfl | rfl
    · exact hw _ (by simp)
    · exact fineT_int (by omega) (by omega)
  · rw [e]
    have ht : FineT 600964 7 (.tup ts) := fineT_tup (m := 60) hf hl
    refine fineT_lst (n := 600964) (k := 7) (m := 2) (fun t q => ?_) (by simp)
    simp only [List.mem_cons, List.not_mem_nil, or_false] at q
    rcases q with rfl | rfl
    · exact (hw _ (by simp)).mono (by omega) (by omega)
    · exact ht
end Rm
namespace Rm
open PySem PySem.Spec L2
open PyProof.Rows hiding St
/-- a drawn text: plain signs, not too long -/
def Tx (n : Nat) (x : Str) : Prop := x.length ≤ n ∧ ∀ c ∈ x.cps.toList, c < 128
theorem Tx.lp {n : Nat} {x : Str} (h : Tx n x) (hn : n ≤ 80000) : Lp x := ⟨Nat.le_trans h.1 hn, strOk_all.mpr fun c q => by have := h.2 c q; omega⟩
theorem Tx.mono {n m : Nat} {x : Str} (h : Tx n x) (hn : n ≤ m) : Tx m x := ⟨Nat.le_trans h.1 hn, h.2⟩
def tot (ls : List Str) : Nat := (ls.map fun x => x.length + 1).sum
theorem tot_app (a b : List Str) : tot (a ++ b) = tot a + tot b := by
  unfold tot
  rw [List.map_append, List.sum_append]
theorem tot_take : ∀ (n : Nat) (ls : List Str), tot (ls.take n) ≤ tot ls
  | 0, _ => by simp [tot]
  | _ + 1, [] => by simp [tot]
  | n + 1, x :: ls => by
    have := tot_take n ls
    simp only [List.take_succ_cons, tot, List.map_cons, List.sum_cons] at this ⊢
    omega
theorem tot_drop : ∀ (n : Nat) (ls : List Str), tot (ls.drop n) ≤ tot ls
  | 0, _ => by simp
  | _ + 1, [] => by simp [tot]
  | n + 1, x :: ls => by
    have := tot_drop n ls
    simp only [List.drop_succ_cons, tot, List.map_cons, List.sum_cons] at this ⊢
    omega
theorem tot_rev (ls : List Str) : tot ls.reverse = tot ls := by
  unfold tot
  rw [List.map_reverse, List.sum_reverse]
/-- parts of a text -/
def Ps (n : Nat) (ls : List Str) : Prop := tot ls ≤ n ∧ ∀ p ∈ ls, ∀ c ∈ p.cps.toList, c < 128
theorem Ps.app {n m : Nat} {a b : List Str} (h : Ps n a) (h' : Ps m b) : Ps (n + m) (a ++ b) := ⟨by rw [tot_app]; have := h.1; have := h'.1; omega, fun p q => (List.mem_append.mp q).elim (h.2 p) (h'.2 p)⟩
theorem Ps.take {n : Nat} {a : List Str} (h : Ps n a) (k : Nat) : Ps n (a.take k) := ⟨Nat.le_trans (tot_take k a) h.1, fun p q => h.2 p (List.mem_of_mem_take q)⟩
theorem Ps.drop {n : Nat} {a : List Str} (h : Ps n a) (k : Nat) : Ps n (a.drop k) := ⟨Nat.le_trans (tot_drop k a) h.1, fun p q => h.2 p (List.mem_of_mem_drop q)⟩
theorem Ps.rev {n : Nat} {a : List Str} (h : Ps n a) : Ps n a.reverse := ⟨by rw [tot_rev]; exact h.1, fun p q => h.2 p (List.mem_reverse.mp q)⟩
theorem Ps.split {n : Nat} {x : Str} (h : Tx n x) (c : Nat) : Ps (n + 1) (Txt.split x ⟨#[c]⟩) := by
  obtain ⟨a, _, _⟩ := split_parts x c
  obtain ⟨_, b⟩ := join_parts (c := c) (ls := Txt.split x ⟨#[c]⟩)
  rw [StrLaws.join_split] at b
  exact ⟨by show ((Txt.split x ⟨#[c]⟩).map fun x => x.length + 1).sum ≤ _; rw [a]; have := h.1; omega, fun p q d hd => h.2 d (b p q d hd)⟩
theorem join_mem {c : Nat} {s : Str} : ∀ {l : List Str}, c ∈ (Str.join s l).cps.toList → c ∈ s.cps.toList ∨ ∃ p ∈ l, c ∈ p.cps.toList
  | [], h => by simp [Str.join, Str.empty] at h
  | [x], h => .inr ⟨x, List.mem_cons_self, h⟩
  | x :: y :: l, h => by
    have h2 : c ∈ (x ++ s ++ Str.join s (y :: l)).cps.toList := h
    simp only [app_tl, List.mem_append] at h2
    rcases h2 with (h | h) | h
    · exact .inr ⟨x, List.mem_cons_self, h⟩
    · exact .inl h
    · rcases join_mem h with h | ⟨p, hp, h⟩
      · exact .inl h
      · exact .inr ⟨p, List.mem_cons_of_mem _ hp, h⟩
theorem join_at {o : Bool} {s : Str} {ws : List Str} (h : (ws.map (·.length)).sum + ws.length * s.length ≤ 16777216) : pJoin [.str s, .lst o (ws.map T.str)] = some (.own (.str (Txt.join s ws))) := by
  show joinL s (ws.map T.str) = _
  unfold joinL
  rw [strsU_of]
  dsimp only
  rw [if_pos (Nat.ble_eq_true_of_le h)]
theorem tot_eq (ls : List Str) : tot ls = (ls.map (·.length)).sum + ls.length := by
  induction ls with
  | nil => rfl
  | cons x ls ih =>
    simp only [tot, List.map_cons, List.sum_cons, List.length_cons] at ih ⊢
    omega
theorem Ps.join {n : Nat} {ls : List Str} (h : Ps n ls) (hn : n ≤ 80000) {c : Nat} (hc : c < 128) {o : Bool} : pJoin [.str ⟨#[c]⟩, .lst o (ls.map T.str)] = some (.own (.str (Txt.join ⟨#[c]⟩ ls))) ∧ Tx n (Txt.join ⟨#[c]⟩ ls) := by
  have h1 : (⟨#[c]⟩ : Str).length = 1 := rfl
  have h2 := tot_eq ls
  have h3 := h.1
  refine ⟨join_at (o := o) (s := ⟨#[c]⟩) (ws := ls) (by rw [h1]; omega), ?_, fun d hd => ?_⟩
  · have := join_len ⟨#[c]⟩ ls
    rw [h1] at this
    omega
  · rw [join_eq] at hd
    rcases join_mem hd with q | ⟨p, hp, q⟩
    · have : d = c := by simpa using q
      omega
    · exact h.2 p hp d q
end Rm
namespace Rm
open PySem PySem.Spec L2
open PyProof.Rows hiding St
local macro_rules | `(tactic| simp! only [$ts,*]) => `(tactic| simp only [w_def, w_if, w_test, w_bool, w_op, w_prim, w_cons, w_nil, w_name, w_c, w_pure, w_br, w_seqT, w_lst, w_chain, w_part, w_pureO, w_slice, w_drop, w_ret, w_retN, w_set, w_move, w_raise, w_asg, w_parN, w_par, w_plName, w_plFld, w_setF, w_setI, w_ddel, w_safe, w_callW, w_kNo, w_kLw, w_callR, w_methR, w_methW, w_methWK, w_nx, w_bk, w_ct, w_rt, w_ok, w_err, w_oerr, gmName, List.length_cons, List.length_nil, List.replicate, List.cons_append, List.nil_append, List.getElem?_cons_zero, List.getElem?_cons_succ, List.set_cons_zero, List.set_cons_succ, List.map_cons, List.map_nil, rdW_own, rdW_vw, mvW_own, Bool.true_or, Bool.false_or, Bool.or_true, true_and, and_true, t_own, t_vw, h_own, keep_own, fz_own, oW_some, oW_ite, bW_some, tW_some, tW_ite, T.bool, Option.map_some, finP, setN, Nat.zero_lt_succ, Nat.reduceLT, Nat.reduceAdd, Nat.reduceLeDiff, getK_hd, id_eq, prep, back, sfW, Bool.and_true, Bool.true_and, decide_true, decide_eq_true_eq, if_true, if_false, ite_true, ite_false, Bool.false_eq_true, eq_self, $ts,*])
theorem Ps.cut {n : Nat} {a : List Str} (h : Ps n a) (lo hi : Option Int) : Ps n (cutT a lo hi) := (h.drop _).take _
theorem sl_strs {o : Bool} {ls : List Str} {lo hi : Option Int} : pSl lo hi [.lst o (ls.map T.str)] = some (.own (.lst true ((cutT ls lo hi).map T.str))) := by
  show (if T.isFA (ls.map T.str) = true then some (Ent.own (.lst true (cutT (ls.map T.str) lo hi))) else none) = _
  rw [if_pos (isFA_strs _)]
  unfold cutT
  simp only [List.length_map, List.map_take, List.map_drop]
theorem add_strs {o o' : Bool} {a b : List Str} (h : a.length + b.length ≤ 100000) : pAdd [.lst o (a.map T.str), .lst o' (b.map T.str)] = some (.own (.lst true ((a ++ b).map T.str))) := by
  show (if (T.isFA (a.map T.str) && T.isFA (b.map T.str)) = true ∧ (a.map T.str).length + (b.map T.str).length ≤ sizeLine then _ else _) = _
  rw [if_pos ⟨by rw [isFA_strs, isFA_strs]; rfl, by rw [List.length_map, List.length_map]; exact le_line h⟩, List.map_append]
theorem Ps.len {n : Nat} {a : List Str} (h : Ps n a) : a.length ≤ n := Nat.le_trans (sum_len a) h.1
theorem rev_strs {o : Bool} {a : List Str} : pRev [.lst o (a.map T.str)] = some (.own (.lst true (a.reverse.map T.str))) := by
  show (if T.isFA (a.map T.str) = true then _ else _) = _
  rw [if_pos (isFA_strs _), List.map_reverse]
theorem Tx.cut {n : Nat} {x : Str} (h : Tx n x) (lo hi : Option Int) : Tx n (cutS x lo hi) := by
  refine ⟨?_, fun c hc => h.2 c ?_⟩
  · have := h.1
    rw [len_tl] at this ⊢
    unfold cutS
    refine Nat.le_trans ?_ this
    simp only [List.length_take, List.length_drop]
    omega
  · unfold cutS at hc
    simp only at hc
    exact List.mem_of_mem_drop (List.mem_of_mem_take hc)
theorem sl_str {n : Nat} {x : Str} (h : Tx n x) (hn : n ≤ 80000) {lo hi : Option Int} : pSl lo hi [.str x] = some (.own (.str (cutS x lo hi))) := by
  show (if x.length ≤ sizeLine then oS (cutS x lo hi) else none) = _
  rw [if_pos (le_line (by have := h.1; omega))]
theorem Tx.app {n m : Nat} {x y : Str} (h : Tx n x) (h' : Tx m y) : Tx (n + m) (x ++ y) := by
  refine ⟨?_, fun c hc => ?_⟩
  · have a := h.1
    have b := h'.1
    rw [len_tl] at a b ⊢
    rw [app_tl, List.length_append]
    omega
  · rw [app_tl, List.mem_append] at hc
    exact hc.elim (h.2 c) (h'.2 c)
theorem add_str {n m : Nat} {x y : Str} (h : Tx n x) (h' : Tx m y) (hn : n + m ≤ 80000) : pAdd [.str x, .str y] = some (.own (.str (x ++ y))) := by
  show (if x.length + y.length ≤ sizeLine then oS (x ++ y) else none) = _
  rw [if_pos (le_line (by have := h.1; have := h'.1; omega))]
theorem upper_list : ∀ {l : List Nat}, (∀ c ∈ l, c < 128) → Txt.upper ⟨l.toArray⟩ = ⟨(l.map fun c => if 97 ≤ c ∧ c ≤ 122 then c - 32 else c).toArray⟩
  | [], _ => by decide +kernel
  | c :: l, h => by
    have e : (⟨(c :: l).toArray⟩ : Str) = ⟨#[c]⟩ ++ ⟨l.toArray⟩ := str_ext (by rw [app_tl]; rfl)
    rw [e, PySem.W.KOpn.upper_app, PySem.W.KOpn.upper_one (h c List.mem_cons_self), upper_list fun d hd => h d (List.mem_cons_of_mem _ hd)]
    exact str_ext (by rw [app_tl]; rfl)
theorem Tx.upper {n : Nat} {x : Str} (h : Tx n x) : Tx n (Txt.upper x) := by
  have e : x = ⟨x.cps.toList.toArray⟩ := str_ext rfl
  rw [e, upper_list h.2]
  refine ⟨?_, fun c hc => ?_⟩
  · have a := h.1
    rw [len_tl] at a ⊢
    simpa using a
  · simp only [List.mem_map] at hc
    obtain ⟨d, hd, rfl⟩ := hc
    have := h.2 d (by simpa using hd)
    split <;> omega
theorem upper_t {n : Nat} {x : Str} (h : Tx n x) (hn : n ≤ 80000) : pUpper [.str x] = some (.own (.str (Txt.upper x))) := by
  show (if Nat.ble x.length 5592405 = true then _ else _) = _
  rw [if_pos (Nat.ble_eq_true_of_le (by have := h.1; omega))]
theorem split_t {n : Nat} {x : Str} (h : Tx n x) (hn : n ≤ 80000) (c : Nat) : pSplit [.str x, .str ⟨#[c]⟩] = some (.own (.lst true ((Txt.split x ⟨#[c]⟩).map T.str))) := by
  show (if (((⟨#[c]⟩ : Str).length == 0) = false ∧ Nat.ble (x.length + 2) sizeLine = true) then _ else _) = _
  rw [if_pos ⟨rfl, Nat.ble_eq_true_of_le (le_line (by have := h.1; omega))⟩]
theorem Ps.one {m : Nat} {y : Str} (h : Tx m y) : Ps (m + 1) [y] := ⟨by simp only [tot, List.map_cons, List.map_nil, List.sum_cons, List.sum_nil]; have := h.1; omega, fun p q => by rw [List.mem_singleton.mp q]; exact h.2⟩
theorem Ps.mono {n m : Nat} {a : List Str} (h : Ps n a) (hn : n ≤ m) : Ps m a := ⟨Nat.le_trans h.1 hn, h.2⟩
def oddT : List Str := ["", "1", "0", "01", "-0", "-5", "+1", "1000000", "1000001", "x", "hold", "lock", "begin", "60", "61", "abcdefg"]
def txB (n : Nat) (x : Str) : Bool := Nat.ble x.length n && x.cps.toList.all fun c => Nat.blt c 128
theorem txB_ok {n : Nat} {x : Str} (h : txB n x = true) : Tx n x := by
  unfold txB at h
  simp only [Bool.and_eq_true, List.all_eq_true] at h
  exact ⟨Nat.le_of_ble_eq_true h.1, fun c hc => Nat.le_of_ble_eq_true (h.2 c hc)⟩
theorem odd_ok {x : Str} (h : x ∈ oddT) : Tx 8 x := txB_ok (List.all_eq_true.mp (show oddT.all (txB 8) = true by decide +kernel) x h)
def sgs : List Str := ["", " ", "0", "-", "\n", ",", "a", "Z", "9", "_", "\t"]
theorem sgs_ok {x : Str} (h : x ∈ sgs) : Tx 1 x := txB_ok (List.all_eq_true.mp (show sgs.all (txB 1) = true by decide +kernel) x h)
theorem len_strs {o : Bool} {a : List Str} : pLen [.lst o (a.map T.str)] = some (.own (.int a.length)) := by
  show oI _ = _
  rw [List.length_map]
abbrev lf (a : List Str) : T := .lst false (a.map T.str)
theorem add_5 {o o' : Bool} {a b c d e : List Str} : pAdd [.lst o [lf a, lf b, lf c], .lst o' [lf d, lf e]] = some (.own (.lst true [lf a, lf b, lf c, lf d, lf e])) := by
  show (if (T.isFA [lf a, lf b, lf c] && T.isFA [lf d, lf e]) = true ∧ (3 + 2 : Nat) ≤ sizeLine then _ else _) = _
  rw [if_pos ⟨by simp [T.isFA, T.isF, isFA_strs], by decide⟩]
  rfl
theorem lf_fz {o : Bool} {a : List Str} : (Ent.own (.lst o (a.map T.str))).fz = some (lf a) := by
  show some (T.frz (.lst o (a.map T.str))) = _
  rw [T.frz, frz_strs]
theorem mp1 {t : T} : List.map Ent.t [Ent.own t] = [t] := rfl
theorem join_lf {m : Nat} {a : List Str} (h : Ps m a) (hm : m ≤ 80000) {c : Nat} (hc : c < 128) : pJoin [.str ⟨#[c]⟩, lf a] = some (.own (.str (Txt.join ⟨#[c]⟩ a))) := (h.join hm hc (o := false)).1
theorem bent_t {t : T} (ht : IsTape t) {n : Nat} {x : Str} (hx : Tx n x) (hn : n ≤ 20000) {Q : Ent → List Ent → Prop} {E : EK}
    (k : ∀ y t' r2 r3, Tx (3 * n + 40) y → IsTape t' → Q (.own (.str y)) [.own t', r2, r3]) : (F_law_bent [.own t, .own (.str x), .own (.lst false (oddT.map T.str))]).w Q E := by
  have hsp := Ps.split hx 10
  have hsw := Ps.split hx 32
  have l10 : ("\n" : Str) = ⟨#[10]⟩ := by decide +kernel
  have l32 : (" " : Str) = ⟨#[32]⟩ := by decide +kernel
  have s1 := split_t hx (by omega) 10
  have s2 := split_t hx (by omega) 32
  unfold F_law_bent
  simp! only [gmName]
  rw [w_thenS]
  simp! only [gmName]
  refine pick_t ht (by omega) fun r1 t1 hr1 ht1 => ?_
  simp! only [Ent.keep]
  rw [w_thenS]
  simp! only [eq_ints]
  by_cases c6 : r1 = 6
  · rw [if_pos c6]
    rw [w_thenS]
    have hxl := hx.1
    simp! only [w_fz, pLen, oI, add_i, Ent.fz, T.isF]
    refine ⟨le_line (by omega), ?_⟩
    refine pick_t ht1 (n := (x.length : Int) + 1) ⟨by omega, by omega⟩ fun r2 t2 hr2 ht2 => ?_
    have u1 := upper_t (hx.cut (some r2) (some (r2 + 1))) (show n ≤ 80000 by omega)
    have u2 := add_str (hx.cut none (some r2)) ((hx.cut (some r2) (some (r2 + 1))).upper) (show n + n ≤ 80000 by omega)
    have u3 := add_str ((hx.cut none (some r2)).app ((hx.cut (some r2) (some (r2 + 1))).upper)) (hx.cut (some (r2 + 1)) none) (show n + n + n ≤ 80000 by omega)
    simp! only [Ent.keep, w_m0, T.asS, sl_str hx (show n ≤ 80000 by omega), add_i, u1, u2, u3]
    exact k _ _ _ _ ((((hx.cut none (some r2)).app ((hx.cut (some r2) (some (r2 + 1))).upper)).app (hx.cut (some (r2 + 1)) none)).mono (by omega)) ht2
  · rw [if_neg c6]
    rw [w_thenS]
    simp! only [pLt, oB]
    by_cases c2 : r1 < 2
    · rw [if_pos c2]
      rw [w_thenS]
      simp! only [w_m1, T.asS, l10, s1, Ent.keep]
      have hne : 0 < (Txt.split x ⟨#[10]⟩).length := List.length_pos_iff.mpr (split_ne _ _)
      generalize Txt.split x ⟨#[10]⟩ = ls at *
      rw [w_thenS]
      simp! only [len_strs]
      refine pick_t ht1 (n := (ls.length : Int)) ⟨by omega, by have := hsp.len; omega⟩ fun r2 t2 hr2 ht2 => ?_
      simp! only [Ent.keep]
      rw [w_thenS]
      have hll := hsp.len
      have cl : ∀ lo hi, (cutT ls lo hi).length ≤ n + 1 := fun lo hi => (hsp.cut lo hi).len
      have a1 : ∀ a b c d, pAdd [.lst true ((cutT ls a b).map T.str), .lst true ((cutT ls c d).map T.str)] = some (.own (.lst true ((cutT ls a b ++ cutT ls c d).map T.str))) := fun a b c d => add_strs (by have := cl a b; have := cl c d; omega)
      have a2 : ∀ a b c d e f, pAdd [.lst true ((cutT ls a b ++ cutT ls c d).map T.str), .lst true ((cutT ls e f).map T.str)] = some (.own (.lst true (((cutT ls a b ++ cutT ls c d) ++ cutT ls e f).map T.str))) := fun a b c d e f => add_strs (by rw [List.length_append]; have := cl a b; have := cl c d; have := cl e f; omega)
      have e0 : (enc (.list [(.str "")])) = .lst false ([("" : Str)].map T.str) := rfl
      have a3 : ∀ a b, pAdd [.lst true ((cutT ls a b).map T.str), .lst false ([("" : Str)].map T.str)] = some (.own (.lst true ((cutT ls a b ++ [("" : Str)]).map T.str))) := fun a b => add_strs (by have := cl a b; simp only [List.length_cons, List.length_nil]; omega)
      have a4 : ∀ a b e f, pAdd [.lst true ((cutT ls a b ++ [("" : Str)]).map T.str), .lst true ((cutT ls e f).map T.str)] = some (.own (.lst true (((cutT ls a b ++ [("" : Str)]) ++ cutT ls e f).map T.str))) := fun a b e f => add_strs (by rw [List.length_append]; have := cl a b; have := cl e f; simp only [List.length_cons, List.length_nil]; omega)
      have a5 : ∀ o, pAdd [.lst o (ls.map T.str), .lst false ([("" : Str)].map T.str)] = some (.own (.lst true ((ls ++ [("" : Str)]).map T.str))) := fun _ => add_strs (by simp only [List.length_cons, List.length_nil]; omega)
      simp only [w_def, w_if, w_test, w_bool, w_op, w_prim, w_cons, w_nil, w_name, w_c, w_pure, w_br, w_seqT, w_lst, w_chain, w_part, w_pureO, w_slice, w_drop, w_ret, w_retN, w_set, w_move, w_raise, w_parN, w_par, w_plName, w_plFld, w_setF, w_setI, w_ddel, w_safe, w_callW, w_kNo, w_kLw, w_callR, w_methR, w_methW, w_methWK, w_nx, w_bk, w_ct, w_rt, w_ok, w_err, w_oerr, gmName, List.length_cons, List.length_nil, List.replicate, List.cons_append, List.nil_append, List.getElem?_cons_zero, List.getElem?_cons_succ, List.set_cons_zero, List.set_cons_succ, rdW_own, rdW_vw, mvW_own, Bool.true_or, Bool.false_or, Bool.or_true, true_and, and_true, t_own, t_vw, h_own, keep_own, fz_own, oW_some, oW_ite, bW_some, tW_some, tW_ite, T.bool, Option.map_some, finP, setN, Nat.zero_lt_succ, Nat.reduceLT, Nat.reduceAdd, Nat.reduceLeDiff, getK_hd, id_eq, prep, back, sfW, Bool.and_true, Bool.true_and, decide_true, decide_eq_true_eq, if_true, if_false, ite_true, ite_false, Bool.false_eq_true, eq_self, w_asgN, w_lst, keepAll, Ent.keep, sl_strs, a1, a2, e0, a3, a4, add_i, T.frz, T.frzA, frz_strs]
      refine ⟨by decide, ?_⟩
      rw [w_thenS]
      simp only [w_def, w_if, w_test, w_bool, w_op, w_prim, w_cons, w_nil, w_name, w_c, w_pure, w_br, w_seqT, w_lst, w_chain, w_part, w_pureO, w_slice, w_drop, w_ret, w_retN, w_set, w_move, w_raise, w_parN, w_par, w_plName, w_plFld, w_setF, w_setI, w_ddel, w_safe, w_callW, w_kNo, w_kLw, w_callR, w_methR, w_methW, w_methWK, w_nx, w_bk, w_ct, w_rt, w_ok, w_err, w_oerr, gmName, List.length_cons, List.length_nil, List.replicate, List.cons_append, List.nil_append, List.getElem?_cons_zero, List.getElem?_cons_succ, List.set_cons_zero, List.set_cons_succ, rdW_own, rdW_vw, mvW_own, Bool.true_or, Bool.false_or, Bool.or_true, true_and, and_true, t_own, t_vw, h_own, keep_own, fz_own, oW_some, oW_ite, bW_some, tW_some, tW_ite, T.bool, Option.map_some, finP, setN, Nat.zero_lt_succ, Nat.reduceLT, Nat.reduceAdd, Nat.reduceLeDiff, getK_hd, id_eq, prep, back, sfW, Bool.and_true, Bool.true_and, decide_true, decide_eq_true_eq, if_true, if_false, ite_true, ite_false, Bool.false_eq_true, eq_self, w_asgN, w_lst, keepAll, Ent.keep, sl_strs, a1, a2, a5, lf_fz, rev_strs, w_fz, add_i, mp1]
      have a6 : ∀ a b c d e f, pAdd [.lst true ((cutT ls a b ++ (cutT ls c d).reverse).map T.str), .lst true ((cutT ls e f).map T.str)] = some (.own (.lst true (((cutT ls a b ++ (cutT ls c d).reverse) ++ cutT ls e f).map T.str))) := fun a b c d e f => add_strs (by rw [List.length_append, List.length_reverse]; have := cl a b; have := cl c d; have := cl e f; omega)
      have a7 : ∀ a b c d, pAdd [.lst true ((cutT ls a b).map T.str), .lst true ((cutT ls c d).reverse.map T.str)] = some (.own (.lst true ((cutT ls a b ++ (cutT ls c d).reverse).map T.str))) := fun a b c d => add_strs (by rw [List.length_reverse]; have := cl a b; have := cl c d; omega)
      simp only [w_def, w_if, w_test, w_bool, w_op, w_prim, w_cons, w_nil, w_name, w_c, w_pure, w_br, w_seqT, w_lst, w_chain, w_part, w_pureO, w_slice, w_drop, w_ret, w_retN, w_set, w_move, w_raise, w_parN, w_par, w_plName, w_plFld, w_setF, w_setI, w_ddel, w_safe, w_callW, w_kNo, w_kLw, w_callR, w_methR, w_methW, w_methWK, w_nx, w_bk, w_ct, w_rt, w_ok, w_err, w_oerr, gmName, List.length_cons, List.length_nil, List.replicate, List.cons_append, List.nil_append, List.getElem?_cons_zero, List.getElem?_cons_succ, List.set_cons_zero, List.set_cons_succ, rdW_own, rdW_vw, mvW_own, Bool.true_or, Bool.false_or, Bool.or_true, true_and, and_true, t_own, t_vw, h_own, keep_own, fz_own, oW_some, oW_ite, bW_some, tW_some, tW_ite, T.bool, Option.map_some, finP, setN, Nat.zero_lt_succ, Nat.reduceLT, Nat.reduceAdd, Nat.reduceLeDiff, getK_hd, id_eq, prep, back, sfW, Bool.and_true, Bool.true_and, decide_true, decide_eq_true_eq, if_true, if_false, ite_true, ite_false, Bool.false_eq_true, eq_self, w_asgN, w_lst, keepAll, Ent.keep, sl_strs, a6, a7, lf_fz, rev_strs, w_fz, add_i, mp1, add_5, T.frz, T.frzA, frz_strs]
      refine ⟨by decide, ?_⟩
      simp only [w_def, w_if, w_test, w_bool, w_op, w_prim, w_cons, w_nil, w_name, w_c, w_pure, w_br, w_seqT, w_lst, w_chain, w_part, w_pureO, w_slice, w_drop, w_ret, w_retN, w_set, w_move, w_raise, w_parN, w_par, w_plName, w_plFld, w_setF, w_setI, w_ddel, w_safe, w_callW, w_kNo, w_kLw, w_callR, w_methR, w_methW, w_methWK, w_nx, w_bk, w_ct, w_rt, w_ok, w_err, w_oerr, gmName, List.length_cons, List.length_nil, List.replicate, List.cons_append, List.nil_append, List.getElem?_cons_zero, List.getElem?_cons_succ, List.set_cons_zero, List.set_cons_succ, rdW_own, rdW_vw, mvW_own, Bool.true_or, Bool.false_or, Bool.or_true, true_and, and_true, t_own, t_vw, h_own, keep_own, fz_own, oW_some, oW_ite, bW_some, tW_some, tW_ite, T.bool, Option.map_some, finP, setN, Nat.zero_lt_succ, Nat.reduceLT, Nat.reduceAdd, Nat.reduceLeDiff, getK_hd, id_eq, prep, back, sfW, Bool.and_true, Bool.true_and, decide_true, decide_eq_true_eq, if_true, if_false, ite_true, ite_false, Bool.false_eq_true, eq_self, w_m1, T.asS, Ent.held, T.isF, T.isFA, isFA_strs, Bool.not_false]
      refine one_of_t ht2 ?ol ?oi fun u t3 e hu hf ht3 => ?_
      case ol => exact ⟨by simp, by simp⟩
      case oi => simp only [T.isFA, T.isF, isFA_strs, Bool.not_false, Bool.and_self]
      have key : ∃ a, u = lf a ∧ Ps (3 * n + 40) a := by
        have h0 : Ps 1 [("" : Str)] := Ps.one (txB_ok (by decide +kernel : txB 0 "" = true))
        simp only [List.mem_cons, List.not_mem_nil, or_false] at hu
        rcases hu with rfl | rfl | rfl | rfl | rfl
        · exact ⟨_, rfl, ((hsp.cut _ _).app (hsp.cut _ _)).mono (by omega)⟩
        · exact ⟨_, rfl, (((hsp.cut _ _).app (hsp.cut _ _)).app (hsp.cut _ _)).mono (by omega)⟩
        · exact ⟨_, rfl, (((hsp.cut _ _).app h0).app (hsp.cut _ _)).mono (by omega)⟩
        · exact ⟨_, rfl, (hsp.app h0).mono (by omega)⟩
        · exact ⟨_, rfl, (((hsp.cut _ _).app (hsp.cut _ _).rev).app (hsp.cut _ _)).mono (by omega)⟩
      obtain ⟨a, rfl, ha⟩ := key
      simp! only [join_lf ha (show 3 * n + 40 ≤ 80000 by omega) (show 10 < 128 by decide)]
      exact ⟨by simp only [T.isF, isFA_strs, Bool.not_false, Bool.and_self], k _ _ _ _ (ha.join (c := 10) (by omega) (by decide) (o := true)).2 ht3⟩
    · rw [if_neg c2]
      rw [w_thenS]
      simp! only [pLt, oB]
      by_cases c4 : r1 < 4
      · rw [if_pos c4]
        rw [w_thenS]
        simp! only [w_m1, T.asS, l32, s2, Ent.keep]
        have hne : 0 < (Txt.split x ⟨#[32]⟩).length := List.length_pos_iff.mpr (split_ne _ _)
        generalize Txt.split x ⟨#[32]⟩ = ls at *
        rw [w_thenS]
        simp! only [len_strs]
        refine pick_t ht1 (n := (ls.length : Int)) ⟨by omega, by have := hsw.len; omega⟩ fun r2 t2 hr2 ht2 => ?_
        simp! only [Ent.held, T.isF, isFA_strs, Bool.not_false]
        have ho : 0 < (oddT.map T.str).length ∧ (oddT.map T.str).length < 1000 := by decide
        refine one_of_t (ts := oddT.map T.str) ht2 ho (isFA_strs _) fun u t3 e hu hf ht3 => ?_
        obtain ⟨w, hw, rfl⟩ := List.mem_map.mp hu
        have hwt := Ps.one (odd_ok hw)
        simp! only [Ent.keep, T.isF]
        rw [w_thenS]
        have hll := hsw.len
        have cl : ∀ lo hi, (cutT ls lo hi).length ≤ n + 1 := fun lo hi => (hsw.cut lo hi).len
        have a1 : ∀ a b c d, pAdd [.lst true ((cutT ls a b).map T.str), .lst true ((cutT ls c d).map T.str)] = some (.own (.lst true ((cutT ls a b ++ cutT ls c d).map T.str))) := fun a b c d => add_strs (by have := cl a b; have := cl c d; omega)
        have a3 : ∀ a b, pAdd [.lst true ((cutT ls a b).map T.str), .lst true [T.str w]] = some (.own (.lst true ((cutT ls a b ++ [w]).map T.str))) := fun a b => add_strs (b := [w]) (by have := cl a b; simp only [List.length_cons, List.length_nil]; omega)
        have a4 : ∀ a b e f, pAdd [.lst true ((cutT ls a b ++ [w]).map T.str), .lst true ((cutT ls e f).map T.str)] = some (.own (.lst true (((cutT ls a b ++ [w]) ++ cutT ls e f).map T.str))) := fun a b e f => add_strs (by rw [List.length_append]; have := cl a b; have := cl e f; simp only [List.length_cons, List.length_nil]; omega)
        have hwi : (T.str w).isF = true := rfl
        have l1 : (1 : Nat) ≤ sizeLine := by decide
        have l3 : (3 : Nat) ≤ sizeLine := by decide
        simp only [w_def, w_if, w_test, w_bool, w_op, w_prim, w_cons, w_nil, w_name, w_c, w_pure, w_br, w_seqT, w_lst, w_chain, w_part, w_pureO, w_slice, w_drop, w_ret, w_retN, w_set, w_move, w_raise, w_parN, w_par, w_plName, w_plFld, w_setF, w_setI, w_ddel, w_safe, w_callW, w_kNo, w_kLw, w_callR, w_methR, w_methW, w_methWK, w_nx, w_bk, w_ct, w_rt, w_ok, w_err, w_oerr, gmName, List.length_cons, List.length_nil, List.replicate, List.cons_append, List.nil_append, List.getElem?_cons_zero, List.getElem?_cons_succ, List.set_cons_zero, List.set_cons_succ, rdW_own, rdW_vw, mvW_own, Bool.true_or, Bool.false_or, Bool.or_true, true_and, and_true, t_own, t_vw, h_own, keep_own, fz_own, oW_some, oW_ite, bW_some, tW_some, tW_ite, T.bool, Option.map_some, finP, setN, Nat.zero_lt_succ, Nat.reduceLT, Nat.reduceAdd, Nat.reduceLeDiff, getK_hd, id_eq, prep, back, sfW, Bool.and_true, Bool.true_and, decide_true, decide_eq_true_eq, if_true, if_false, ite_true, ite_false, Bool.false_eq_true, eq_self, w_asgN, w_lst, keepAll, Ent.keep, sl_strs, a1, a3, a4, add_i, T.frz, T.frzA, frz_strs, l1, l3, hwi]
        simp only [w_def, w_if, w_test, w_bool, w_op, w_prim, w_cons, w_nil, w_name, w_c, w_pure, w_br, w_seqT, w_lst, w_chain, w_part, w_pureO, w_slice, w_drop, w_ret, w_retN, w_set, w_move, w_raise, w_parN, w_par, w_plName, w_plFld, w_setF, w_setI, w_ddel, w_safe, w_callW, w_kNo, w_kLw, w_callR, w_methR, w_methW, w_methWK, w_nx, w_bk, w_ct, w_rt, w_ok, w_err, w_oerr, gmName, List.length_cons, List.length_nil, List.replicate, List.cons_append, List.nil_append, List.getElem?_cons_zero, List.getElem?_cons_succ, List.set_cons_zero, List.set_cons_succ, rdW_own, rdW_vw, mvW_own, Bool.true_or, Bool.false_or, Bool.or_true, true_and, and_true, t_own, t_vw, h_own, keep_own, fz_own, oW_some, oW_ite, bW_some, tW_some, tW_ite, T.bool, Option.map_some, finP, setN, Nat.zero_lt_succ, Nat.reduceLT, Nat.reduceAdd, Nat.reduceLeDiff, getK_hd, id_eq, prep, back, sfW, Bool.and_true, Bool.true_and, decide_true, decide_eq_true_eq, if_true, if_false, ite_true, ite_false, Bool.false_eq_true, eq_self, w_m1, T.asS, Ent.held, T.isF, T.isFA, isFA_strs, Bool.not_false]
        refine one_of_t ht3 ?ol ?oi fun u t4 e hu hf ht4 => ?_
        case ol => exact ⟨by simp, by simp⟩
        case oi => simp only [T.isFA, T.isF, isFA_strs, Bool.not_false, Bool.and_self]
        have key : ∃ a, u = lf a ∧ Ps (3 * n + 40) a := by
          simp only [List.mem_cons, List.not_mem_nil, or_false] at hu
          rcases hu with rfl | rfl | rfl
          · exact ⟨_, rfl, ((hsw.cut _ _).app (hsw.cut _ _)).mono (by omega)⟩
          · exact ⟨_, rfl, (((hsw.cut _ _).app hwt).app (hsw.cut _ _)).mono (by omega)⟩
          · exact ⟨_, rfl, (((hsw.cut _ _).app hwt).app (hsw.cut _ _)).mono (by omega)⟩
        obtain ⟨a, rfl, ha⟩ := key
        simp! only [join_lf ha (show 3 * n + 40 ≤ 80000 by omega) (show 32 < 128 by decide)]
        exact ⟨by simp only [T.isF, isFA_strs, Bool.not_false, Bool.and_self], k _ _ _ _ (ha.join (c := 32) (by omega) (by decide) (o := true)).2 ht4⟩
      · rw [if_neg c4]
        rw [w_thenS]
        simp only [w_def, w_if, w_test, w_bool, w_op, w_prim, w_cons, w_nil, w_name, w_c, w_pure, w_br, w_seqT, w_lst, w_chain, w_part, w_pureO, w_slice, w_drop, w_ret, w_retN, w_set, w_move, w_raise, w_parN, w_par, w_plName, w_plFld, w_setF, w_setI, w_ddel, w_safe, w_callW, w_kNo, w_kLw, w_callR, w_methR, w_methW, w_methWK, w_nx, w_bk, w_ct, w_rt, w_ok, w_err, w_oerr, gmName, List.length_cons, List.length_nil, List.replicate, List.cons_append, List.nil_append, List.getElem?_cons_zero, List.getElem?_cons_succ, List.set_cons_zero, List.set_cons_succ, List.map_cons, List.map_nil, rdW_own, rdW_vw, mvW_own, Bool.true_or, Bool.false_or, Bool.or_true, true_and, and_true, t_own, t_vw, h_own, keep_own, fz_own, oW_some, oW_ite, bW_some, tW_some, tW_ite, T.bool, Option.map_some, finP, setN, Nat.zero_lt_succ, Nat.reduceLT, Nat.reduceAdd, Nat.reduceLeDiff, getK_hd, id_eq, prep, back, sfW, Bool.and_true, Bool.true_and, decide_true, decide_eq_true_eq, if_true, if_false, ite_true, ite_false, Bool.false_eq_true, eq_self, w_asgN]
        have e0 : (enc (PyData.list [PyData.str "", PyData.str " ", PyData.str "0", PyData.str "-", PyData.str ⟨#[10]⟩, PyData.str ",", PyData.str "a", PyData.str "Z", PyData.str "9", PyData.str "_", PyData.str "\t"])) = .lst false (sgs.map T.str) := by kernel_rfl
        have hxl := hx.1
        have l10' : (⟨#[10]⟩ : Str) = ⟨#[10]⟩ := rfl
        try rw [l10]
        simp only [w_def, w_if, w_test, w_bool, w_op, w_prim, w_cons, w_nil, w_name, w_c, w_pure, w_br, w_seqT, w_lst, w_chain, w_part, w_pureO, w_slice, w_drop, w_ret, w_retN, w_set, w_move, w_raise, w_parN, w_par, w_plName, w_plFld, w_setF, w_setI, w_ddel, w_safe, w_callW, w_kNo, w_kLw, w_callR, w_methR, w_methW, w_methWK, w_nx, w_bk, w_ct, w_rt, w_ok, w_err, w_oerr, gmName, List.length_cons, List.length_nil, List.replicate, List.cons_append, List.nil_append, List.getElem?_cons_zero, List.getElem?_cons_succ, List.set_cons_zero, List.set_cons_succ, List.map_cons, List.map_nil, rdW_own, rdW_vw, mvW_own, Bool.true_or, Bool.false_or, Bool.or_true, true_and, and_true, t_own, t_vw, h_own, keep_own, fz_own, oW_some, oW_ite, bW_some, tW_some, tW_ite, T.bool, Option.map_some, finP, setN, Nat.zero_lt_succ, Nat.reduceLT, Nat.reduceAdd, Nat.reduceLeDiff, getK_hd, id_eq, prep, back, sfW, Bool.and_true, Bool.true_and, decide_true, decide_eq_true_eq, if_true, if_false, ite_true, ite_false, Bool.false_eq_true, eq_self, w_asgN, e0, T.frz, frz_strs, Ent.fz]
        rw [w_thenS]
        simp! only [w_fz, pLen, oI, add_i, Ent.fz, T.isF]
        refine ⟨le_line (by omega), ?_⟩
        refine pick_t ht1 (n := (x.length : Int) + 1) ⟨by omega, by omega⟩ fun r2 t2 hr2 ht2 => ?_
        simp! only [Ent.held, T.isF, isFA_strs, Bool.not_false]
        have ho : 0 < (sgs.map T.str).length ∧ (sgs.map T.str).length < 1000 := by decide
        refine one_of_t (ts := sgs.map T.str) ht2 ho (isFA_strs _) fun u t3 e hu hf ht3 => ?_
        obtain ⟨w, hw, rfl⟩ := List.mem_map.mp hu
        have hwt := sgs_ok hw
        have hwi : (T.str w).isF = true := rfl
        have b1 := add_str (hx.cut none (some r2)) hwt (show n + 1 ≤ 80000 by omega)
        simp! only [Ent.keep, hwi, sl_str hx (show n ≤ 80000 by omega), b1, Ent.held, T.isF]
        refine pick_t ht3 (n := 2) (by omega) fun r3 t4 hr3 ht4 => ?_
        have b2 := add_str ((hx.cut none (some r2)).app hwt) (hx.cut (some (r2 + r3)) none) (show n + 1 + n ≤ 80000 by omega)
        have b3 : pSlFr [.str x, .int (r2 + r3)] = some (.own (.str (cutS x (some (r2 + r3)) none))) := sl_str hx (by omega)
        simp! only [add_i, b2, b3]
        exact k _ _ _ _ ((((hx.cut none (some r2)).app hwt).app (hx.cut (some (r2 + r3)) none)).mono (by omega)) ht4
end Rm
namespace Rm
open PySem PySem.Spec L2
open PyProof.Rows hiding St
local macro_rules | `(tactic| simp_all! only [$ts,*]) => `(tactic| simp only [w_def, w_thenS, w_if, w_test, w_bool, w_op, w_prim, w_cons, w_nil, w_name, w_c, w_pure, w_br, w_seqT, w_lst, w_chain, w_part, w_pureO, w_slice, w_drop, w_ret, w_retN, w_set, w_move, w_raise, w_asg, w_parN, w_par, w_plName, w_plFld, w_setF, w_setI, w_ddel, w_safe, w_callW, w_kNo, w_kLw, w_callR, w_methR, w_methW, w_methWK, w_nx, w_bk, w_ct, w_rt, w_ok, w_err, w_oerr, gmName, List.length_cons, List.length_nil, List.replicate, List.cons_append, List.nil_append, List.getElem?_cons_zero, List.getElem?_cons_succ, List.set_cons_zero, List.set_cons_succ, List.map_cons, List.map_nil, rdW_own, rdW_vw, mvW_own, Bool.true_or, Bool.false_or, Bool.or_true, true_and, and_true, t_own, t_vw, h_own, keep_own, fz_own, oW_some, oW_ite, bW_some, tW_some, tW_ite, T.bool, Option.map_some, finP, setN, Nat.zero_lt_succ, Nat.reduceLT, Nat.reduceAdd, Nat.reduceLeDiff, getK_hd, id_eq, prep, back, sfW, Bool.and_true, Bool.true_and, decide_true, decide_eq_true_eq, if_true, if_false, ite_true, ite_false, Bool.false_eq_true, eq_self, $ts,*])
local macro_rules | `(tactic| simp! only [$ts,*]) => `(tactic| simp only [w_def, w_if, w_test, w_bool, w_op, w_prim, w_cons, w_nil, w_name, w_c, w_pure, w_br, w_seqT, w_lst, w_chain, w_part, w_pureO, w_slice, w_drop, w_ret, w_retN, w_set, w_move, w_raise, w_asg, w_parN, w_par, w_plName, w_plFld, w_setF, w_setI, w_ddel, w_safe, w_callW, w_kNo, w_kLw, w_callR, w_methR, w_methW, w_methWK, w_nx, w_bk, w_ct, w_rt, w_ok, w_err, w_oerr, gmName, List.length_cons, List.length_nil, List.replicate, List.cons_append, List.nil_append, List.getElem?_cons_zero, List.getElem?_cons_succ, List.set_cons_zero, List.set_cons_succ, List.map_cons, List.map_nil, rdW_own, rdW_vw, mvW_own, Bool.true_or, Bool.false_or, Bool.or_true, true_and, and_true, t_own, t_vw, h_own, keep_own, fz_own, oW_some, oW_ite, bW_some, tW_some, tW_ite, T.bool, Option.map_some, finP, setN, Nat.zero_lt_succ, Nat.reduceLT, Nat.reduceAdd, Nat.reduceLeDiff, getK_hd, id_eq, prep, back, sfW, Bool.and_true, Bool.true_and, decide_true, decide_eq_true_eq, if_true, if_false, ite_true, ite_false, Bool.false_eq_true, eq_self, $ts,*])
def nmOk (s : Str) : Prop := 1 ≤ s.length ∧ s.length ≤ 6 ∧ ∀ c ∈ s.cps.toList, 97 ≤ c ∧ c ≤ 122
def ltr : Str := "abcdefghijklmnopqrstuvwxyz"
def wAlone : List Str := ["begin", "crash", "clean"]
def wNum : List Str := ["save", "release", "back", "commit", "abort", "prepare"]
def nHor : List Int := [0, 1, 10, 59, 60]
def nNum : List Int := [1, 2, 9, 10, 101, 10 ^ 6]
def nVal : List Int := [0, 7, 0 - 1, 0 - 10, 100, 10 ^ 30 - 1, 1 - 10 ^ 30]
inductive Form : List T → List Str → Prop
  | alone {w : Str} : w ∈ wAlone → Form [.str w] [w]
  | hor {n : Int} : n ∈ nHor → Form [.str "horizon", .int n] ["horizon", toString n]
  | num {w : Str} {n : Int} : w ∈ wNum → n ∈ nNum → Form [.str w, .int n] [w, toString n]
  | lock {n : Int} {nm m : Str} : n ∈ nNum → nmOk nm → m ∈ mds → Form [.str "lock", .int n, .str nm, .str m] ["lock", toString n, nm, m]
  | chg {n v : Int} {nm m : Str} : n ∈ nNum → nmOk nm → m ∈ cmds → v ∈ nVal → Form [.str "change", .int n, .str nm, .str m, .int v] ["change", toString n, nm, m, toString v]
theorem strOk_nm {s : Str} (h : nmOk s) : PyData.strOk s = true := by
  unfold PyData.strOk
  rw [← Array.all_toList, List.all_eq_true]
  intro c hc
  have := h.2.2 c hc
  exact decide_eq_true (by omega)
inductive Ws : List T → List Str → Prop
  | nil : Ws [] []
  | cons {p : T} {w : Str} {ps : List T} {ws : List Str} : pStr [p] = some (.own (.str w)) → Ws ps ws → Ws (p :: ps) (w :: ws)
theorem str_s {w : Str} : pStr [.str w] = some (.own (.str w)) := rfl
theorem str_n {n : Int} (h : n ∈ nHor ∨ n ∈ nNum ∨ n ∈ nVal) : pStr [.int n] = some (.own (.str (toString n))) := by
  simp only [nHor, nNum, nVal, List.mem_cons, List.not_mem_nil, or_false] at h
  rcases h with (h | h | h | h | h) | (h | h | h | h | h | h) | (h | h | h | h | h | h | h) <;> subst h <;> kernel_rfl
theorem Form.ws {ps : List T} {ws : List Str} (h : Form ps ws) : Ws ps ws := by
  cases h with
  | alone => exact .cons str_s .nil
  | hor h => exact .cons str_s (.cons (str_n (.inl h)) .nil)
  | num _ h => exact .cons str_s (.cons (str_n (.inr (.inl h))) .nil)
  | lock h => exact .cons str_s (.cons (str_n (.inr (.inl h))) (.cons str_s (.cons str_s .nil)))
  | chg h _ _ h2 => exact .cons str_s (.cons (str_n (.inr (.inl h))) (.cons str_s (.cons str_s (.cons (str_n (.inr (.inr h2))) .nil))))
def wOk (w : Str) : Prop := 32 ∉ w.cps.toList ∧ 10 ∉ w.cps.toList ∧ w.length ≤ 40 ∧ PyData.strOk w = true ∧ 1 ≤ w.length
def wOkB (w : Str) : Bool := decide (32 ∉ w.cps.toList) && (decide (10 ∉ w.cps.toList) && (decide (w.length ≤ 40) && (PyData.strOk w && decide (1 ≤ w.length))))
theorem wOk_of {w : Str} (h : wOkB w = true) : wOk w := by
  unfold wOkB at h
  simp only [Bool.and_eq_true, decide_eq_true_eq] at h
  exact h
theorem wOk_nm {w : Str} (h : nmOk w) : wOk w := ⟨fun q => by have := h.2.2 _ q; omega, fun q => by have := h.2.2 _ q; omega, Nat.le_trans h.2.1 (by decide), strOk_nm h, h.1⟩
theorem wOk_n {n : Int} (h : n ∈ nHor ∨ n ∈ nNum ∨ n ∈ nVal) : wOk (toString n) := by
  refine wOk_of ?_
  simp only [nHor, nNum, nVal, List.mem_cons, List.not_mem_nil, or_false] at h
  rcases h with (h | h | h | h | h) | (h | h | h | h | h | h) | (h | h | h | h | h | h | h) <;> subst h <;> decide +kernel
def wX : List Str := ["horizon", "lock", "change"]
theorem wOk_l {w : Str} (h : w ∈ wAlone ++ wNum ++ mds ++ cmds ++ wX) : wOk w :=
  wOk_of (List.all_eq_true.mp (show (wAlone ++ wNum ++ mds ++ cmds ++ wX).all wOkB = true by decide +kernel) w h)
theorem wOk_all {ws : List Str} (h : ∀ w ∈ ws, wOk w) {w : Str} (hw : wOk w) : ∀ x ∈ w :: ws, wOk x := fun x q => (List.mem_cons.mp q).elim (fun e => e ▸ hw) (h x)
theorem wOk_nil : ∀ x ∈ ([] : List Str), wOk x := fun _ q => nomatch q
theorem Form.ok {ps : List T} {ws : List Str} (h : Form ps ws) : (∀ w ∈ ws, wOk w) ∧ ws ≠ [] ∧ ws.length ≤ 5 := by
  have hx : ∀ w ∈ wX, wOk w := fun w q => wOk_l (by simp [q])
  cases h with
  | alone h => exact ⟨wOk_all wOk_nil (wOk_l (by simp [h])), by simp, by simp⟩
  | hor h => exact ⟨wOk_all (wOk_all wOk_nil (wOk_n (.inl h))) (hx _ (by simp [wX])), by simp, by simp⟩
  | num h1 h => exact ⟨wOk_all (wOk_all wOk_nil (wOk_n (.inr (.inl h)))) (wOk_l (by simp [h1])), by simp, by simp⟩
  | lock h1 h2 h3 => exact ⟨wOk_all (wOk_all (wOk_all (wOk_all wOk_nil (wOk_l (by simp [h3]))) (wOk_nm h2)) (wOk_n (.inr (.inl h1)))) (hx _ (by simp [wX])), by simp, by simp⟩
  | chg h1 h2 h3 h4 => exact ⟨wOk_all (wOk_all (wOk_all (wOk_all (wOk_all wOk_nil (wOk_n (.inr (.inr h4)))) (wOk_l (by simp [h3]))) (wOk_nm h2)) (wOk_n (.inr (.inl h1)))) (hx _ (by simp [wX])), by simp, by simp⟩
def line (ws : List Str) : Str := Txt.join " " ws
theorem line_len {ws : List Str} (h : ∀ w ∈ ws, wOk w) (hl : ws.length ≤ 5) : (ws.map (·.length)).sum + ws.length * (" " : Str).length ≤ 205 ∧ (line ws).length ≤ 205 := by
  have h1 := sum_le (n := 40) (l := ws.map (·.length)) fun x q => by
    obtain ⟨w, hw, rfl⟩ := List.mem_map.mp q
    exact (h w hw).2.2.1
  rw [List.length_map] at h1
  have h3 : (" " : Str).length = 1 := by decide +kernel
  have h2 := join_len " " ws
  unfold line
  rw [h3] at *
  omega
theorem lc_ws {x0 : Ent} {xs : List Ent} {ps : List T} {ws : List Str} (h : Ws ps ws) (hl : ws.length ≤ 5) {Q : Ent → List Ent → Prop} {E : EK} (k : Q (.own (.lst true (ws.map T.str))) (x0 :: .no :: xs)) :
    (lcM [1] (gmName 1) (mPure true) (mPrim pStr (mCons true (mName 1) mNil)) ps [] (x0 :: .no :: xs)).w Q E := by
  refine lcM_w (fun ts acc ρ => ∃ (done rest : List Str), Ws ts rest ∧ ws = done ++ rest ∧ acc = done.map T.str ∧ ρ = x0 :: .no :: xs) (fun acc ρ h => ?_) (fun y ts acc ρ h => ?_) _ _ _ ⟨[], ws, h, rfl, rfl, rfl⟩
  · obtain ⟨done, rest, h1, h2, rfl, rfl⟩ := h
    cases h1
    rw [List.append_nil] at h2
    subst h2; exact k
  · obtain ⟨done, rest, h1, h2, rfl, rfl⟩ := h
    cases h1 with
    | @cons p w ps ws' hp hr =>
    simp_all! only [hp, T.frz, wipeE]
    refine ⟨by simp, ?_, done ++ [w], ws', hr, by simp [h2], by simp⟩
    rw [List.length_map]
    have : done.length ≤ 5 := by rw [h2, List.length_append] at hl; omega
    exact Nat.lt_of_le_of_lt this (by decide)
def itB (i : Nat) : Bool := match pItem [.str ltr, .int (i : Int)] with
  | some (.vw (.str s)) => decide (s = ⟨#[97 + i]⟩)
  | _ => false
theorem item_l {i : Int} (h : 0 ≤ i ∧ i < 26) : ∃ c, 97 ≤ c ∧ c ≤ 122 ∧ pItem [.str "abcdefghijklmnopqrstuvwxyz", .int i] = some (.vw (.str ⟨#[c]⟩)) := by
  have h0 : (List.range 26).all itB = true := by decide +kernel
  have := List.all_eq_true.mp h0 i.toNat (List.mem_range.mpr (by omega))
  unfold itB at this
  rw [show ((i.toNat : Nat) : Int) = i by omega] at this
  split at this
  · rename_i s e
    have e2 := of_decide_eq_true this
    subst e2
    exact ⟨_, by omega, by omega, e⟩
  · cases this
theorem one_str_t {t : T} (ht : IsTape t) {Q : Ent → List Ent → Prop} {E : EK} (k : ∀ c t' e, 97 ≤ c ∧ c ≤ 122 → IsTape t' → Q (.vw (.str ⟨#[c]⟩)) [.own t', e]) : (F_law_one_of [.own t, .own (.str "abcdefghijklmnopqrstuvwxyz")]).w Q E := by
  unfold F_law_one_of
  have e : pLen [.str "abcdefghijklmnopqrstuvwxyz"] = some (.own (.int 26)) := by kernel_rfl
  simp_all! only [e, T.isF, Ent.held]
  refine pick_t (n := 26) ht ⟨by omega, by omega⟩ fun r t' hr ht' => ?_
  obtain ⟨c, h1, h2, h3⟩ := item_l hr
  simp_all! only [h3]
  exact k c t' _ ⟨h1, h2⟩ ht'
theorem join_e : ∀ cs : List Nat, Str.join "" (cs.map fun c => (⟨#[c]⟩ : Str)) = ⟨cs.toArray⟩
  | [] => rfl
  | [c] => rfl
  | c :: d :: cs => by
    show (⟨#[c]⟩ : Str) ++ "" ++ Str.join "" ((d :: cs).map fun c => (⟨#[c]⟩ : Str)) = _
    rw [join_e (d :: cs)]
    refine str_ext ?_
    rw [app_tl, app_tl]
    have : ("" : Str).cps.toList = [] := by decide +kernel
    simp [this]
theorem nym_t {t : T} (ht : IsTape t) {Q : Ent → List Ent → Prop} {E : EK} (k : ∀ s t', nmOk s → IsTape t' → Q (.own (.str s)) [.own t']) : (F_law_nym [.own t]).w Q E := by
  unfold F_law_nym
  simp only [w_def, w_thenS, w_if, w_test, w_bool, w_op, w_prim, w_cons, w_nil, w_name, w_c, w_pure, w_br, w_seqT, w_lst, w_chain, w_part, w_pureO, w_slice, w_drop, w_ret, w_retN, w_set, w_move, w_raise, w_parN, w_par, w_plName, w_plFld, w_setF, w_setI, w_ddel, w_safe, w_callW, w_kNo, w_kLw, w_callR, w_methR, w_methW, w_methWK, w_nx, w_bk, w_ct, w_rt, w_ok, w_err, w_oerr, gmName, List.length_cons, List.length_nil, List.replicate, List.cons_append, List.nil_append, List.getElem?_cons_zero, List.getElem?_cons_succ, List.set_cons_zero, List.set_cons_succ, List.map_cons, List.map_nil, rdW_own, rdW_vw, mvW_own, Bool.true_or, Bool.false_or, Bool.or_true, true_and, and_true, t_own, t_vw, h_own, keep_own, fz_own, oW_some, oW_ite, bW_some, tW_some, tW_ite, T.bool, Option.map_some, finP, setN, Nat.zero_lt_succ, Nat.reduceLT, Nat.reduceAdd, Nat.reduceLeDiff, getK_hd, id_eq, prep, back, sfW, Bool.and_true, Bool.true_and, decide_true, decide_eq_true_eq, if_true, if_false, ite_true, ite_false, Bool.false_eq_true, eq_self, w_asgN, w_m1, T.asS, w_lc, w_range1, T.isF, Ent.held]
  refine pick_t ht (by decide) fun r t1 hr ht1 => ?_
  simp_all! only [add_i, wipeE]
  refine ⟨okR_of ⟨by omega, by omega⟩, ?_⟩
  refine lcM_w (fun ts acc ρ => ∃ (cs : List Nat) (m : Nat) (t' : T), ts.length = m ∧ cs.length + m = (1 + r).toNat ∧ (∀ u ∈ ts, ∃ i, u = T.int i) ∧ acc = (cs.map fun c => (⟨#[c]⟩ : Str)).map T.str ∧ (∀ c ∈ cs, 97 ≤ c ∧ c ≤ 122) ∧ IsTape t' ∧ ρ = [.own t', .own (.str "abcdefghijklmnopqrstuvwxyz"), .no]) (fun acc ρ q => ?_) (fun y us acc ρ q => ?_) _ _ _ ⟨[], _, t1, rfl, by simp [rangeT], ?_, rfl, (fun _ q => nomatch q), ht1, rfl⟩
  · obtain ⟨cs, m, t', rfl, h2, _, rfl, h4, h5, rfl⟩ := q
    simp only [List.length_nil, Nat.add_zero] at h2
    have hl : ((cs.map fun c => (⟨#[c]⟩ : Str)).map (·.length)).sum + (cs.map fun c => (⟨#[c]⟩ : Str)).length * ("" : Str).length ≤ 100 := by
      have h1 := sum_le (n := 1) (l := (cs.map fun c => (⟨#[c]⟩ : Str)).map (·.length)) fun x q => by
        obtain ⟨y, hy, rfl⟩ := List.mem_map.mp q
        obtain ⟨c, hc, rfl⟩ := List.mem_map.mp hy
        exact Nat.le_refl _
      have h0 : ("" : Str).length = 0 := by decide +kernel
      rw [List.length_map, List.length_map] at h1
      rw [h0]
      omega
    simp_all! only [join_at (o := true) (s := "") (ws := cs.map fun c => (⟨#[c]⟩ : Str)) (by omega)]
    refine k _ t' ?_ h5
    rw [join_eq, join_e]
    refine ⟨?_, ?_, fun c hc => h4 c (by simpa using hc)⟩
    · show 1 ≤ cs.toArray.size
      simp; omega
    · show cs.toArray.size ≤ 6
      simp; omega
  · obtain ⟨cs, m, t', rfl, h2, h3, rfl, h4, h5, rfl⟩ := q
    obtain ⟨i, rfl⟩ := h3 y List.mem_cons_self
    simp only [List.length_cons] at h2
    simp_all! only [T.isF, Ent.held, T.frz]
    refine one_str_t h5 fun c t2 e hc ht2 => ?_
    simp_all! only [Ent.fz, T.frz, wipeE]
    refine ⟨rfl, by rw [List.length_map, List.length_map]; exact lt_line (by omega), cs ++ [c], _, t2, rfl, by simp; omega, fun u q => h3 u (List.mem_cons_of_mem _ q), by simp, fun d q => ?_, ht2, rfl⟩
    rcases List.mem_append.mp q with q | q
    · exact h4 d q
    · simp only [List.mem_cons, List.not_mem_nil, or_false] at q
      subst q; exact hc
  · intro u q
    unfold rangeT at q
    obtain ⟨i, _, rfl⟩ := List.mem_map.mp q
    exact ⟨_, rfl⟩
def wFirst : List Str := ["begin", "crash", "clean", "horizon", "save", "release", "back", "commit", "abort"]
def wLast : List Str := ["prepare", "lock", "change"]
def wAll : List Str := wFirst ++ wLast
def nmT : List Str := ["x", "y", "ab", "lock", "set", "abcdef"]
def nmB9 (s : Str) : Bool := decide (1 ≤ s.length) && (decide (s.length ≤ 6) && s.cps.toList.all fun c => decide (97 ≤ c) && decide (c ≤ 122))
theorem nmB9_ok {s : Str} (h : nmB9 s = true) : nmOk s := by
  unfold nmB9 at h
  simp only [Bool.and_eq_true, decide_eq_true_eq, List.all_eq_true] at h
  exact h
theorem nmT_ok {s : Str} (h : s ∈ nmT) : nmOk s := nmB9_ok (List.all_eq_true.mp (show nmT.all nmB9 = true by decide +kernel) s h)
theorem name_t {t : T} (ht : IsTape t) {x1 x2 x3 x4 : Ent} {I : List Ent → Prop} (k : ∀ nm t', nmOk nm → IsTape t' → I [.own t', x1, x2, .own (.str nm), x4]) :
    ((mSet 3 (mCallW [.io 0, .val] F_law_one_of (mKNo 0 (mCons false (mFz (mOp pAdd false (mC (enc (.list [(.str "x"), (.str "y"), (.str "ab"), (.str "lock"), (.str "set"), (.str "abcdef")]))) (mOp pMul true (mLst (mCons true (mCallW [.io 0] F_law_nym (mKNo 0 mNil)) mNil)) (mC (.int (3)))))) mNil)))) [.own t, x1, x2, x3, x4]).w ⟨I, fun _ _ => False, fun _ => False, fun _ => False, noE⟩ := by
  simp only [w_def, w_thenS, w_if, w_test, w_bool, w_op, w_prim, w_cons, w_nil, w_name, w_c, w_pure, w_br, w_seqT, w_chain, w_part, w_pureO, w_slice, w_drop, w_ret, w_retN, w_set, w_move, w_raise, w_asg, w_parN, w_par, w_plName, w_plFld, w_setF, w_setI, w_ddel, w_safe, w_callW, w_kNo, w_kLw, w_callR, w_methR, w_methW, w_methWK, w_nx, w_bk, w_ct, w_rt, w_ok, w_err, w_oerr, gmName, List.length_cons, List.length_nil, List.replicate, List.cons_append, List.nil_append, List.getElem?_cons_zero, List.getElem?_cons_succ, List.set_cons_zero, List.set_cons_succ, List.map_cons, List.map_nil, rdW_own, rdW_vw, mvW_own, Bool.true_or, Bool.false_or, Bool.or_true, true_and, and_true, t_own, t_vw, h_own, keep_own, fz_own, oW_some, oW_ite, bW_some, tW_some, tW_ite, T.bool, Option.map_some, finP, setN, Nat.zero_lt_succ, Nat.reduceLT, Nat.reduceAdd, Nat.reduceLeDiff, getK_hd, id_eq, prep, back, sfW, Bool.and_true, Bool.true_and, decide_true, decide_eq_true_eq, if_true, if_false, ite_true, ite_false, Bool.false_eq_true, eq_self, w_fz, w_lst, T.isF, Ent.held]
  refine nym_t ht fun s t1 hs ht1 => ?_
  have e1 : pMul [.lst true [.str s], .int 3] = some (.own (.lst true [.str s, .str s, .str s])) := by kernel_rfl
  have e2 : pAdd [enc (.list [(.str "x"), (.str "y"), (.str "ab"), (.str "lock"), (.str "set"), (.str "abcdef")]), .lst true [.str s, .str s, .str s]] = some (.own (.lst true ((nmT ++ [s, s, s]).map T.str))) := by kernel_rfl
  simp_all! only [keepAll, Ent.keep, e1, e2, Ent.fz, T.frz, frz_strs]
  refine ⟨by decide, ?_⟩
  refine one_of_t (ts := (nmT ++ [s, s, s]).map T.str) ht1 (by simp [nmT]) (isFA_strs _) fun u t2 e hu hf ht2 => ?_
  obtain ⟨w, hw, rfl⟩ := List.mem_map.mp hu
  simp_all! only [Ent.keep, T.isF]
  refine k w t2 ?_ ht2
  rcases List.mem_append.mp hw with h | h
  · exact nmT_ok h
  · simp only [List.mem_cons, List.not_mem_nil, or_false, or_self] at h
    subst h; exact hs
theorem deed_t {t : T} (ht : IsTape t) {Q : Ent → List Ent → Prop} {E : EK} (k : ∀ ps ws t', Form ps ws → IsTape t' → Q (.own (.tup ps)) [.own t']) : (F_law_some_deed [.own t]).w Q E := by
  unfold F_law_some_deed
  simp! only [gmName]
  rw [w_thenS]
  refine O.w_nx (I := fun ρ => ∃ (t' : T) (w : Str), w ∈ wFirst ∧ IsTape t' ∧ ρ = [.own t', .own (.str w), .no, .no, .no]) ?_ ?_
  · simp_all! only [gmName]
    refine one_of_t (ts := wFirst.map T.str) ht (by decide) (isFA_strs _) fun u t1 e hu hf ht1 => ?_
    obtain ⟨w, hw, rfl⟩ := List.mem_map.mp hu
    simp_all! only [Ent.keep, T.isF]
    exact ⟨t1, w, hw, ht1, rfl⟩
  rintro ρ ⟨t1, w, hw, ht1, rfl⟩
  clear ht
  dsimp only
  rw [w_thenS]
  refine O.w_nx (I := fun ρ => ∃ (t' : T) (w : Str), w ∈ wAll ∧ IsTape t' ∧ ρ = [.own t', .own (.str w), .no, .no, .no]) ?_ ?_
  · simp_all! only [w_fz, w_lst, keepAll, Ent.keep, T.isF, Ent.fz, T.frz, T.frzA]
    refine ⟨by decide, ?_⟩
    refine one_of_t (ts := [w, "prepare", "lock", "lock", "change", "change"].map T.str) ht1 (by simp) (isFA_strs _) fun u t2 e hu hf ht2 => ?_
    obtain ⟨w2, hw2, rfl⟩ := List.mem_map.mp hu
    simp_all! only [Ent.keep, T.isF]
    refine ⟨t2, w2, ?_, ht2, rfl⟩
    unfold wAll
    simp only [List.mem_cons, List.not_mem_nil, or_false] at hw2
    rcases hw2 with rfl | rfl | rfl | rfl | rfl | rfl
    · exact List.mem_append_left _ hw
    all_goals exact List.mem_append_right _ (by simp [wLast])
  rintro ρ ⟨t2, w, hw, ht2, rfl⟩
  clear ht1
  dsimp only
  have hc : w ∈ wAlone ∨ w = "horizon" ∨ w ∈ wNum ∨ w = "lock" ∨ w = "change" := by
    simp only [wAll, wFirst, wLast, List.cons_append, List.nil_append, List.mem_cons, List.not_mem_nil, or_false] at hw
    simp only [wAlone, wNum, List.mem_cons, List.not_mem_nil, or_false]
    rcases hw with h | h | h | h | h | h | h | h | h | h | h | h <;> simp [h]
  clear hw
  have fs : ∀ x, Ent.fz (.vw (.str x)) = some (.str x) := fun _ => rfl
  have fi : ∀ x, Ent.fz (.vw (.int x)) = some (.int x) := fun _ => rfl
  rcases hc with hw | rfl | hw | rfl | rfl
  · have e1 : pMem false [.str w, enc (.tuple [(.str "begin"), (.str "crash"), (.str "clean")])] = some (.own (.bl true)) := by
      simp only [wAlone, List.mem_cons, List.not_mem_nil, or_false] at hw
      rcases hw with rfl | rfl | rfl <;> kernel_rfl
    simp_all! only [e1, fzAll, fs]
    exact ⟨by decide, k _ _ _ (.alone hw) ht2⟩
  · have e1 : pMem false [.str "horizon", enc (.tuple [(.str "begin"), (.str "crash"), (.str "clean")])] = some (.own (.bl false)) := by kernel_rfl
    rw [w_thenS]
    simp! only [e1]
    rw [w_thenS]
    simp! only [eq_str, T.isF, Ent.held]
    refine one_of_t (ts := nHor.map T.int) ht2 (by decide) (by decide) fun u t3 e hu hf ht3 => ?_
    obtain ⟨n, hn, rfl⟩ := List.mem_map.mp hu
    simp! only [fzAll, fs, fi]
    exact ⟨rfl, by decide, k _ _ _ (.hor hn) ht3⟩
  · have e1 : pMem false [.str w, enc (.tuple [(.str "begin"), (.str "crash"), (.str "clean")])] = some (.own (.bl false)) := by
      simp only [wNum, List.mem_cons, List.not_mem_nil, or_false] at hw
      rcases hw with rfl | rfl | rfl | rfl | rfl | rfl <;> kernel_rfl
    have e2 : pEq2 [.str w, .str "horizon"] = some (.own (.bl false)) := by
      simp only [wNum, List.mem_cons, List.not_mem_nil, or_false] at hw
      rcases hw with rfl | rfl | rfl | rfl | rfl | rfl <;> kernel_rfl
    have e3 : pMem true [.str w, enc (.tuple [(.str "lock"), (.str "change")])] = some (.own (.bl true)) := by
      simp only [wNum, List.mem_cons, List.not_mem_nil, or_false] at hw
      rcases hw with rfl | rfl | rfl | rfl | rfl | rfl <;> kernel_rfl
    rw [w_thenS]
    simp! only [e1]
    rw [w_thenS]
    simp! only [e2]
    rw [w_thenS]
    simp! only [gmName]
    refine one_of_t (ts := nNum.map T.int) ht2 (by decide) (by decide) fun u t3 e hu hf ht3 => ?_
    obtain ⟨n, hn, rfl⟩ := List.mem_map.mp hu
    simp! only [Ent.keep, T.isF]
    rw [w_thenS]
    simp! only [e3, fzAll, fs, fi]
    exact ⟨by decide, k _ _ _ (.num hw hn) ht3⟩
  · have e1 : pMem false [.str "lock", enc (.tuple [(.str "begin"), (.str "crash"), (.str "clean")])] = some (.own (.bl false)) := by kernel_rfl
    have e2 : pEq2 [.str "lock", .str "horizon"] = some (.own (.bl false)) := by kernel_rfl
    have e3 : pMem true [.str "lock", enc (.tuple [(.str "lock"), (.str "change")])] = some (.own (.bl false)) := by kernel_rfl
    rw [w_thenS]
    simp! only [e1]
    rw [w_thenS]
    simp! only [e2]
    rw [w_thenS]
    simp! only [gmName]
    refine one_of_t (ts := nNum.map T.int) ht2 (by decide) (by decide) fun u t3 e hu hf ht3 => ?_
    obtain ⟨n, hn, rfl⟩ := List.mem_map.mp hu
    simp! only [Ent.keep, T.isF]
    rw [w_thenS]
    simp! only [e3, fzAll, fs, fi]
    rw [w_thenS]
    refine O.w_nx (I := fun ρ => ∃ (t' : T) (nm : Str), nmOk nm ∧ IsTape t' ∧ ρ = [.own t', .own (.str "lock"), .own (.int n), .own (.str nm), .no]) ?_ ?_
    · exact name_t ht3 fun nm t' h1 h2 => ⟨t', nm, h1, h2, rfl⟩
    rintro ρ ⟨t4, nm, hm, ht4, rfl⟩
    dsimp only
    rw [w_thenS]
    simp! only [eq_str, T.isF, Ent.held]
    refine one_of_t (ts := mds.map T.str) ht4 (by decide) (isFA_strs _) fun u t5 e hu hf ht5 => ?_
    obtain ⟨m, hd, rfl⟩ := List.mem_map.mp hu
    simp! only [fzAll, fs, fi]
    exact ⟨rfl, by decide, k _ _ _ (.lock hn hm hd) ht5⟩
  · have e1 : pMem false [.str "change", enc (.tuple [(.str "begin"), (.str "crash"), (.str "clean")])] = some (.own (.bl false)) := by kernel_rfl
    have e2 : pEq2 [.str "change", .str "horizon"] = some (.own (.bl false)) := by kernel_rfl
    have e3 : pMem true [.str "change", enc (.tuple [(.str "lock"), (.str "change")])] = some (.own (.bl false)) := by kernel_rfl
    rw [w_thenS]
    simp! only [e1]
    rw [w_thenS]
    simp! only [e2]
    rw [w_thenS]
    simp! only [gmName]
    refine one_of_t (ts := nNum.map T.int) ht2 (by decide) (by decide) fun u t3 e hu hf ht3 => ?_
    obtain ⟨n, hn, rfl⟩ := List.mem_map.mp hu
    simp! only [Ent.keep, T.isF]
    rw [w_thenS]
    simp! only [e3, fzAll, fs, fi]
    rw [w_thenS]
    refine O.w_nx (I := fun ρ => ∃ (t' : T) (nm : Str), nmOk nm ∧ IsTape t' ∧ ρ = [.own t', .own (.str "change"), .own (.int n), .own (.str nm), .no]) ?_ ?_
    · exact name_t ht3 fun nm t' h1 h2 => ⟨t', nm, h1, h2, rfl⟩
    rintro ρ ⟨t4, nm, hm, ht4, rfl⟩
    dsimp only
    rw [w_thenS]
    have e5 : pEq2 [.str "change", .str "lock"] = some (.own (.bl false)) := by kernel_rfl
    simp! only [e5]
    rw [w_thenS]
    refine O.w_nx (I := fun ρ => ∃ (t' : T) (v : Int), v ∈ nVal ∧ IsTape t' ∧ ρ = [.own t', .own (.str "change"), .own (.int n), .own (.str nm), .own (.int v)]) ?_ ?_
    · have hl : mFz (mLst (mCons true (mC (.int (0))) (mCons true (mC (.int (7))) (mCons true (mOp pSub true (mC (.int (0))) (mC (.int (1)))) (mCons true (mOp pSub true (mC (.int (0))) (mC (.int (10)))) (mCons true (mC (.int (100))) (mCons true (mOp pSub true (mOp pPow true (mC (.int (10))) (mC (.int (30)))) (mC (.int (1)))) (mCons true (mOp pSub true (mC (.int (1))) (mOp pPow true (mC (.int (10))) (mC (.int (30))))) mNil)))))))) [.own t4, .own (.str "change"), .own (.int n), .own (.str nm), .no] = .ok (.own (.lst false (nVal.map T.int))) [.own t4, .own (.str "change"), .own (.int n), .own (.str nm), .no] := by kernel_rfl
      simp only [w_def, w_thenS, w_if, w_test, w_bool, w_op, w_prim, w_cons, w_nil, w_name, w_c, w_pure, w_br, w_seqT, w_chain, w_part, w_pureO, w_slice, w_drop, w_ret, w_retN, w_set, w_move, w_raise, w_asg, w_parN, w_par, w_plName, w_plFld, w_setF, w_setI, w_ddel, w_safe, w_callW, w_kNo, w_kLw, w_callR, w_methR, w_methW, w_methWK, w_nx, w_bk, w_ct, w_rt, w_ok, w_err, w_oerr, gmName, List.length_cons, List.length_nil, List.replicate, List.cons_append, List.nil_append, List.getElem?_cons_zero, List.getElem?_cons_succ, List.set_cons_zero, List.set_cons_succ, List.map_cons, List.map_nil, rdW_own, rdW_vw, mvW_own, Bool.true_or, Bool.false_or, Bool.or_true, true_and, and_true, t_own, t_vw, h_own, keep_own, fz_own, oW_some, oW_ite, bW_some, tW_some, tW_ite, T.bool, Option.map_some, finP, setN, Nat.zero_lt_succ, Nat.reduceLT, Nat.reduceAdd, Nat.reduceLeDiff, getK_hd, id_eq, prep, back, sfW, Bool.and_true, Bool.true_and, decide_true, decide_eq_true_eq, if_true, if_false, ite_true, ite_false, Bool.false_eq_true, eq_self, w_eqR hl]
      refine one_of_t (ts := nVal.map T.int) ht4 (by decide) (by decide) fun u t5 e hu hf ht5 => ?_
      obtain ⟨v, hv, rfl⟩ := List.mem_map.mp hu
      simp_all! only [Ent.keep, T.isF]
      exact ⟨t5, v, hv, ht5, rfl⟩
    rintro ρ ⟨t5, v, hv, ht5, rfl⟩
    dsimp only
    simp! only [T.isF, Ent.held]
    refine one_of_t (ts := cmds.map T.str) ht5 (by decide) (isFA_strs _) fun u t6 e hu hf ht6 => ?_
    obtain ⟨m, hd, rfl⟩ := List.mem_map.mp hu
    simp! only [fzAll, fs, fi]
    exact ⟨rfl, by decide, k _ _ _ (.chg hn hm hd hv) ht6⟩
theorem tx_n {n : Int} (h : n ∈ nHor ∨ n ∈ nNum ∨ n ∈ nVal) : Tx 40 (toString n) := by
  refine txB_ok ?_
  simp only [nHor, nNum, nVal, List.mem_cons, List.not_mem_nil, or_false] at h
  rcases h with (h | h | h | h | h) | (h | h | h | h | h | h) | (h | h | h | h | h | h | h) <;> subst h <;> decide +kernel
theorem tx_nm {w : Str} (h : nmOk w) : Tx 40 w := ⟨Nat.le_trans h.2.1 (by decide), fun c q => by have := h.2.2 c q; omega⟩
theorem tx_l {w : Str} (h : w ∈ wAlone ++ wNum ++ mds ++ cmds ++ wX) : Tx 40 w :=
  txB_ok (List.all_eq_true.mp (show (wAlone ++ wNum ++ mds ++ cmds ++ wX).all (txB 40) = true by decide +kernel) w h)
theorem tx_all {ws : List Str} (h : ∀ w ∈ ws, Tx 40 w) {w : Str} (hw : Tx 40 w) : ∀ x ∈ w :: ws, Tx 40 x := fun x q => (List.mem_cons.mp q).elim (fun e => e ▸ hw) (h x)
theorem tx_nil : ∀ x ∈ ([] : List Str), Tx 40 x := fun _ q => nomatch q
theorem Form.tx {ps : List T} {ws : List Str} (h : Form ps ws) : ∀ w ∈ ws, Tx 40 w := by
  have hx : ∀ w ∈ wX, Tx 40 w := fun w q => tx_l (by simp [q])
  cases h with
  | alone h => exact tx_all tx_nil (tx_l (by simp [h]))
  | hor h => exact tx_all (tx_all tx_nil (tx_n (.inl h))) (hx _ (by simp [wX]))
  | num h1 h => exact tx_all (tx_all tx_nil (tx_n (.inr (.inl h)))) (tx_l (by simp [h1]))
  | lock h1 h2 h3 => exact tx_all (tx_all (tx_all (tx_all tx_nil (tx_l (by simp [h3]))) (tx_nm h2)) (tx_n (.inr (.inl h1)))) (hx _ (by simp [wX]))
  | chg h1 h2 h3 h4 => exact tx_all (tx_all (tx_all (tx_all (tx_all tx_nil (tx_n (.inr (.inr h4)))) (tx_l (by simp [h3]))) (tx_nm h2)) (tx_n (.inr (.inl h1)))) (hx _ (by simp [wX]))
/-- the line of a drawn operation is plain -/
theorem Form.line {ps : List T} {ws : List Str} (h : Form ps ws) : Tx 205 (line ws) := by
  obtain ⟨h1, h2, h3⟩ := h.ok
  refine ⟨(line_len h1 h3).2, fun c hc => ?_⟩
  unfold Rm.line at hc
  rw [join_eq] at hc
  rcases join_mem hc with q | ⟨p, hp, q⟩
  · rw [sp_e] at q
    have : c = 32 := by simpa using q
    omega
  · exact (h.tx p hp).2 c q
inductive Ds : List T → List (List Str) → Prop
  | nil : Ds [] []
  | cons {ps : List T} {ws : List Str} {ts : List T} {wss : List (List Str)} : Form ps ws → Ds ts wss → Ds (.tup ps :: ts) (ws :: wss)
theorem Ds.len {ts : List T} {wss : List (List Str)} (h : Ds ts wss) : ts.length = wss.length := by
  induction h with
  | nil => rfl
  | cons _ _ ih => rw [List.length_cons, List.length_cons, ih]
theorem Form.isF {ps : List T} {ws : List Str} (h : Form ps ws) : (T.tup ps).isF = true := by cases h <;> rfl
theorem Ds.isF {ts : List T} {wss : List (List Str)} (h : Ds ts wss) : T.isFA ts = true := by
  induction h with
  | nil => rfl
  | cons h _ ih => simp only [T.isFA, h.isF, ih, Bool.and_self]
theorem Ds.app {ts ts' : List T} {wss wss' : List (List Str)} (h : Ds ts wss) (h' : Ds ts' wss') : Ds (ts ++ ts') (wss ++ wss') := by
  induction h with
  | nil => exact h'
  | cons h _ ih => exact .cons h ih
theorem Ds.ok {ts : List T} {wss : List (List Str)} (h : Ds ts wss) : ∀ ws ∈ wss, (∀ w ∈ ws, wOk w) ∧ ws ≠ [] ∧ ws.length ≤ 5 := by
  induction h with
  | nil => exact fun _ q => nomatch q
  | cons h _ ih => exact fun ws q => (List.mem_cons.mp q).elim (fun e => e ▸ h.ok) (ih ws)
def text (wss : List (List Str)) : Str := Txt.join "\n" (wss.map line)
theorem text_len {wss : List (List Str)} (h : ∀ ws ∈ wss, (∀ w ∈ ws, wOk w) ∧ ws ≠ [] ∧ ws.length ≤ 5) (hl : wss.length ≤ 60) : ((wss.map line).map (·.length)).sum + (wss.map line).length * ("\n" : Str).length ≤ 12400 ∧ (text wss).length ≤ 12400 := by
  have h1 := sum_le (n := 205) (l := (wss.map line).map (·.length)) fun x q => by
    obtain ⟨y, hy, rfl⟩ := List.mem_map.mp q
    obtain ⟨ws, hw, rfl⟩ := List.mem_map.mp hy
    exact (line_len (h ws hw).1 (h ws hw).2.2).2
  have h3 : ("\n" : Str).length = 1 := by decide +kernel
  have h2 := join_len "\n" (wss.map line)
  unfold text
  rw [h3] at *
  rw [List.length_map, List.length_map] at h1
  rw [List.length_map] at h2 ⊢
  have : wss.length * 205 ≤ 60 * 205 := Nat.mul_le_mul_right _ hl
  omega
theorem deeds_t {ts : List T} {wss : List (List Str)} (h : Ds ts wss) (hl : wss.length ≤ 60) {Q : Ent → List Ent → Prop} {E : EK} (k : ∀ r, Q (.own (.str (text wss))) r) : (F_law_deeds_text [.own (.lst false ts)]).w Q E := by
  unfold F_law_deeds_text
  simp_all! only [w_m1, T.asS, w_lc, w_itV, T.items, Ent.fz, T.isF, h.isF, Bool.not_false, Bool.and_self]
  refine lcM_w (fun us acc ρ => ∃ (d e : List (List Str)), Ds us e ∧ wss = d ++ e ∧ acc = (d.map line).map T.str ∧ ρ = [.own (.lst false ts), .no, .no]) (fun acc ρ q => ?_) (fun y us acc ρ q => ?_) _ _ _ ⟨[], wss, h, rfl, rfl, rfl⟩
  · obtain ⟨d, e, h1, h2, rfl, rfl⟩ := q
    cases h1
    rw [List.append_nil] at h2
    subst h2
    have h5 := (text_len h.ok hl).1
    simp_all! only [join_at (o := true) (s := "\n") (ws := wss.map line) (by omega)]
    exact k _
  · obtain ⟨d, e, h1, h2, rfl, rfl⟩ := q
    cases h1 with
    | @cons ps ws ts' wss' hf hr =>
    have hd : d.length ≤ 60 := by rw [h2, List.length_append] at hl; omega
    obtain ⟨h3, h4, h6⟩ := hf.ok
    have h7 : T.isFA ps = true := by have := hf.isF; simpa [T.isF] using this
    simp_all! only [w_m1, T.asS, w_lc, w_itV, T.items, Ent.fz, T.isF, h7]
    show (lcM _ _ _ _ ps [] (.own (.lst false ts) :: .no :: [.own (.tup ps)])).w _ _
    refine lc_ws hf.ws h6 ?_
    have h5 := (line_len h3 h6).1
    simp_all! only [join_at (o := true) (s := " ") (ws := ws) (by omega), Ent.fz, T.frz, wipeE]
    exact ⟨by rw [List.length_map, List.length_map]; exact lt_line (by omega), d ++ [ws], wss', hr, by simp [h2], by simp [line]⟩
theorem Ds.tx {ts : List T} {wss : List (List Str)} (h : Ds ts wss) : ∀ l ∈ wss.map line, Tx 205 l := by
  induction h with
  | nil => exact fun _ q => nomatch q
  | cons hf _ ih => exact fun l q => (List.mem_cons.mp q).elim (fun e => e ▸ hf.line) (ih l)
theorem Ds.text {ts : List T} {wss : List (List Str)} (h : Ds ts wss) (hl : wss.length ≤ 9) : Tx 2000 (text wss) := by
  refine ⟨?_, fun c hc => ?_⟩
  · have h1 := sum_le (n := 205) (l := (wss.map Rm.line).map (·.length)) fun x q => by
      obtain ⟨y, hy, rfl⟩ := List.mem_map.mp q
      exact (h.tx y hy).1
    have h3 : ("\n" : Str).length = 1 := by decide +kernel
    have h2 := join_len "\n" (wss.map Rm.line)
    unfold Rm.text
    rw [h3] at *
    rw [List.length_map, List.length_map] at h1
    rw [List.length_map] at h2
    have : wss.length * 205 ≤ 9 * 205 := Nat.mul_le_mul_right _ hl
    omega
  · unfold Rm.text at hc
    rw [join_eq] at hc
    rcases join_mem hc with q | ⟨p, hp, q⟩
    · rw [lf_e] at q
      have : c = 10 := by simpa using q
      omega
    · exact (h.tx p hp).2 c q
end Rm
namespace Rm
open PySem PySem.Spec L2
open PyProof.Rows hiding St
local macro_rules | `(tactic| simp_all! only [$ts,*]) => `(tactic| simp only [w_def, w_thenS, w_if, w_test, w_bool, w_op, w_prim, w_cons, w_nil, w_name, w_c, w_pure, w_br, w_seqT, w_lst, w_chain, w_part, w_pureO, w_slice, w_drop, w_ret, w_retN, w_set, w_move, w_raise, w_asg, w_parN, w_par, w_plName, w_plFld, w_setF, w_setI, w_ddel, w_safe, w_callW, w_kNo, w_kLw, w_callR, w_methR, w_methW, w_methWK, w_nx, w_bk, w_ct, w_rt, w_ok, w_err, w_oerr, gmName, List.length_cons, List.length_nil, List.replicate, List.cons_append, List.nil_append, List.getElem?_cons_zero, List.getElem?_cons_succ, List.set_cons_zero, List.set_cons_succ, List.map_cons, List.map_nil, rdW_own, rdW_vw, mvW_own, Bool.true_or, Bool.false_or, Bool.or_true, true_and, and_true, t_own, t_vw, h_own, keep_own, fz_own, oW_some, oW_ite, bW_some, tW_some, tW_ite, T.bool, Option.map_some, finP, setN, Nat.zero_lt_succ, Nat.reduceLT, Nat.reduceAdd, Nat.reduceLeDiff, getK_hd, id_eq, prep, back, sfW, Bool.and_true, Bool.true_and, decide_true, decide_eq_true_eq, if_true, if_false, ite_true, ite_false, Bool.false_eq_true, eq_self, $ts,*])
theorem draw_t {t : T} (ht : IsTape t) {x0 x1 x2 x4 x5 x6 x7 x8 x9 y0 y1 y2 y3 : Ent} {I : List Ent → Prop} (k : ∀ x t', Tx 2000 x → IsTape t' → I [x0, x1, x2, .own t', x4, .own (.str x), .no, x7, x8, x9, y0, y1, y2, y3]) :
    ((mAsg (mCallR F_law_deeds_text (mCons true (mFz (mLc [6] (mRange1 (mCallW [.io 3, .val] F_law_pick (mKNo 3 (mCons false (mC (.int (10))) mNil)))) (gmName 6) (mPure true) (mCallW [.io 3] F_law_some_deed (mKNo 3 mNil)))) mNil)) (gmName 5)) [x0, x1, x2, .own t, x4, x5, x6, x7, x8, x9, y0, y1, y2, y3]).w ⟨I, fun _ _ => False, fun _ => False, fun _ => False, noE⟩ := by
  simp only [w_def, w_thenS, w_if, w_test, w_bool, w_op, w_prim, w_cons, w_nil, w_name, w_c, w_pure, w_br, w_seqT, w_lst, w_chain, w_part, w_pureO, w_slice, w_drop, w_ret, w_retN, w_set, w_move, w_raise, w_parN, w_par, w_plName, w_plFld, w_setF, w_setI, w_ddel, w_safe, w_callW, w_kNo, w_kLw, w_callR, w_methR, w_methW, w_methWK, w_nx, w_bk, w_ct, w_rt, w_ok, w_err, w_oerr, gmName, List.length_cons, List.length_nil, List.replicate, List.cons_append, List.nil_append, List.getElem?_cons_zero, List.getElem?_cons_succ, List.set_cons_zero, List.set_cons_succ, List.map_cons, List.map_nil, rdW_own, rdW_vw, mvW_own, Bool.true_or, Bool.false_or, Bool.or_true, true_and, and_true, t_own, t_vw, h_own, keep_own, fz_own, oW_some, oW_ite, bW_some, tW_some, tW_ite, T.bool, Option.map_some, finP, setN, Nat.zero_lt_succ, Nat.reduceLT, Nat.reduceAdd, Nat.reduceLeDiff, getK_hd, id_eq, prep, back, sfW, Bool.and_true, Bool.true_and, decide_true, decide_eq_true_eq, if_true, if_false, ite_true, ite_false, Bool.false_eq_true, eq_self, w_asgN, w_lc, w_range1, wipeE, w_fz, T.isF, Ent.held]
  refine pick_t ht (by omega) fun n t0 hn ht0 => ?_
  simp_all! only [wipeE]
  refine ⟨okR_of ⟨by omega, by omega⟩, ?_⟩
  refine lcM_w (fun us acc ρ => ∃ (ts : List T) (wss : List (List Str)) (m : Nat) (t' : T), us.length = m ∧ wss.length + m = n.toNat ∧ (∀ u ∈ us, ∃ i, u = T.int i) ∧ acc = ts ∧ Ds ts wss ∧ IsTape t' ∧ ρ = [x0, x1, x2, .own t', x4, x5, .no, x7, x8, x9, y0, y1, y2, y3]) (fun acc ρ q => ?_) (fun y us acc ρ q => ?_) _ _ _ ⟨[], [], _, t0, rfl, by simp [rangeT], ?_, rfl, .nil, ht0, rfl⟩
  · obtain ⟨ts, wss, m, t', rfl, h2, _, rfl, h4, h5, rfl⟩ := q
    simp only [List.length_nil, Nat.add_zero] at h2
    have hF : T.isFA acc = true := h4.isF
    have e1 : (Ent.own (.lst true acc)).fz = some (.lst false acc) := by
      show some (T.frz (.lst true acc)) = _
      rw [T.frz, frz_isFA hF]
    have ea : (Ent.own (.lst false acc)).arg = .own (.lst false acc) := by
      show (if (T.lst false acc).isF = true then _ else _) = _
      rw [if_pos (by simp [T.isF, hF])]
    simp_all! only [e1, ea]
    refine deeds_t h4 (by omega) fun r => ?_
    simp_all! only [gmName]
    exact k _ t' (h4.text (by omega)) h5
  · obtain ⟨ts, wss, m, t', rfl, h2, h3, rfl, h4, h5, rfl⟩ := q
    obtain ⟨i, rfl⟩ := h3 y List.mem_cons_self
    simp only [List.length_cons] at h2
    simp_all! only [T.frz]
    refine deed_t h5 fun ps ws t2 hf ht2 => ?_
    have hz : (T.tup ps).frz = .tup ps := frz_isF hf.isF
    simp_all! only [Ent.fz, hz, wipeE]
    exact ⟨by rw [h4.len]; exact lt_line (by omega), _, wss ++ [ws], _, t2, rfl, by simp; omega, fun u q => h3 u (List.mem_cons_of_mem _ q), rfl, h4.app (.cons hf .nil), ht2, rfl⟩
  · intro u q
    unfold rangeT at q
    obtain ⟨i, _, rfl⟩ := List.mem_map.mp q
    exact ⟨_, rfl⟩
def bnd : Nat → Nat
  | 0 => 2000
  | n + 1 => 3 * bnd n + 40
theorem bends_t {t : T} (ht : IsTape t) {x : Str} (hx : Tx 2000 x) {x0 x2 x4 x6 x7 x8 x9 y0 y1 y2 y3 : Ent} {I : List Ent → Prop} (k : ∀ x t' x7, Lp x → IsTape t' → I [x0, .own (.lst false (oddT.map T.str)), x2, .own t', x4, .own (.str x), x6, x7, x8, x9, y0, y1, y2, y3]) :
    ((mFor (mRange1 (mOp pAdd false (mC (.int (1))) (mCallW [.io 3, .val] F_law_pick (mKNo 3 (mCons false (mC (.int (3))) mNil))))) (gmName 7) (mAsg (mCallW [.io 3, .val, .val] F_law_bent (mKNo 3 (mCons false (mName 5) (mCons false (mName 1) mNil)))) (gmName 5))) [x0, .own (.lst false (oddT.map T.str)), x2, .own t, x4, .own (.str x), x6, x7, x8, x9, y0, y1, y2, y3]).w ⟨I, fun _ _ => False, fun _ => False, fun _ => False, noE⟩ := by
  rw [w_for, w_range1]
  simp_all! only [T.isF, Ent.held]
  refine pick_t ht (by omega) fun n t0 hn ht0 => ?_
  simp_all! only [add_i]
  refine ⟨okR_of ⟨by omega, by omega⟩, ?_⟩
  refine forM_n (fun us ρ => ∃ (j m : Nat) (x : Str) (t' : T) (x7 : Ent), us.length = m ∧ j + m ≤ 3 ∧ Tx (bnd j) x ∧ IsTape t' ∧ ρ = [x0, .own (.lst false (oddT.map T.str)), x2, .own t', x4, .own (.str x), x6, x7, x8, x9, y0, y1, y2, y3]) (fun ρ h => ?_) (fun u us ρ h => ?_) _ _ ⟨0, _, x, t0, _, rfl, by simp [rangeT]; omega, hx, ht0, rfl⟩
  · obtain ⟨j, m, x, t', x7, _, h2, h3, h4, rfl⟩ := h
    refine k x t' x7 (h3.lp ?_) h4
    have : j = 0 ∨ j = 1 ∨ j = 2 ∨ j = 3 := by omega
    rcases this with rfl | rfl | rfl | rfl <;> simp [bnd]
  · obtain ⟨j, m, x, t', x7, rfl, h2, h3, h4, rfl⟩ := h
    simp only [List.length_cons] at h2
    simp_all! only [T.isF, Ent.held, isFA_strs, Bool.not_false]
    refine bent_t h4 h3 ?_ fun y t2 r2 r3 hy ht2 => ?_
    · have : j = 0 ∨ j = 1 ∨ j = 2 := by omega
      rcases this with rfl | rfl | rfl <;> simp [bnd]
    simp_all! only [Ent.fz, T.isF]
    exact ⟨j + 1, _, y, t2, _, rfl, by omega, hy, ht2, rfl⟩
end Rm
namespace Rm
open PySem PySem.Spec L2
open PyProof.Rows hiding St
local macro_rules | `(tactic| simp_all! only [$ts,*]) => `(tactic| simp only [w_def, w_thenS, w_if, w_test, w_bool, w_op, w_prim, w_cons, w_nil, w_name, w_c, w_pure, w_br, w_seqT, w_lst, w_chain, w_part, w_pureO, w_slice, w_drop, w_ret, w_retN, w_set, w_move, w_raise, w_asg, w_parN, w_par, w_plName, w_plFld, w_setF, w_setI, w_ddel, w_safe, w_callW, w_kNo, w_kLw, w_callR, w_methR, w_methW, w_methWK, w_nx, w_bk, w_ct, w_rt, w_ok, w_err, w_oerr, gmName, List.length_cons, List.length_nil, List.replicate, List.cons_append, List.nil_append, List.getElem?_cons_zero, List.getElem?_cons_succ, List.set_cons_zero, List.set_cons_succ, List.map_cons, List.map_nil, rdW_own, rdW_vw, mvW_own, Bool.true_or, Bool.false_or, Bool.or_true, true_and, and_true, t_own, t_vw, h_own, keep_own, fz_own, oW_some, oW_ite, bW_some, tW_some, tW_ite, T.bool, Option.map_some, finP, setN, Nat.zero_lt_succ, Nat.reduceLT, Nat.reduceAdd, Nat.reduceLeDiff, getK_hd, id_eq, prep, back, sfW, Bool.and_true, Bool.true_and, decide_true, decide_eq_true_eq, if_true, if_false, ite_true, ite_false, Bool.false_eq_true, eq_self, $ts,*])
local macro_rules | `(tactic| simp! only [$ts,*]) => `(tactic| simp only [w_def, w_if, w_test, w_bool, w_op, w_prim, w_cons, w_nil, w_name, w_c, w_pure, w_br, w_seqT, w_lst, w_chain, w_part, w_pureO, w_slice, w_drop, w_ret, w_retN, w_set, w_move, w_raise, w_asg, w_parN, w_par, w_plName, w_plFld, w_setF, w_setI, w_ddel, w_safe, w_callW, w_kNo, w_kLw, w_callR, w_methR, w_methW, w_methWK, w_nx, w_bk, w_ct, w_rt, w_ok, w_err, w_oerr, gmName, List.length_cons, List.length_nil, List.replicate, List.cons_append, List.nil_append, List.getElem?_cons_zero, List.getElem?_cons_succ, List.set_cons_zero, List.set_cons_succ, List.map_cons, List.map_nil, rdW_own, rdW_vw, mvW_own, Bool.true_or, Bool.false_or, Bool.or_true, true_and, and_true, t_own, t_vw, h_own, keep_own, fz_own, oW_some, oW_ite, bW_some, tW_some, tW_ite, T.bool, Option.map_some, finP, setN, Nat.zero_lt_succ, Nat.reduceLT, Nat.reduceAdd, Nat.reduceLeDiff, getK_hd, id_eq, prep, back, sfW, Bool.and_true, Bool.true_and, decide_true, decide_eq_true_eq, if_true, if_false, ite_true, ite_false, Bool.false_eq_true, eq_self, $ts,*])
/-! ### values of all kinds -/
def VL1 : T := enc (.list [.none, (.bool true), (.bool false), (.int (0)), (.int (1)), (.int (2)), (.int (7)), (.int (0 - 1)), (.int (10 ^ ((40 : Int)).toNat)), (.str ""), (.str "a"), (.str "x"), (.str "hold"), (.str "locks"), (.str "Hold"), (.str "change ")])
def VL2 : T := enc (.list [(.str "abcdefg"), (.tuple []), (.list []), (.dict []), (.tuple [(.int (1))]), (.list [(.int (1))]), (.dict [(keyD (.inr "x"), (.int (1)))]), (.tuple [(.int (1)), (.str "locks"), (.str "hold")]), (.tuple [(.str "hold")]), (.list [(.str "hold")]), (.str "1")])
def tsOf : T → List T
  | .lst _ ts => ts
  | _ => []
def VL : List T := tsOf VL1 ++ tsOf VL2
def askB (t : T) : Bool := t.pl && (t.isF && fineTB 9000 5 t)
theorem askB_ok {t : T} (h : askB t = true) : Askd t := by
  unfold askB at h
  simp only [Bool.and_eq_true] at h
  exact ⟨h.1, h.2.1, fineTB_ok h.2.2⟩
theorem VL_ask : ∀ t ∈ VL, askB t = true := by
  have : VL.all askB = true := by decide +kernel
  exact fun t h => List.all_eq_true.mp this t h
theorem VL_fa : T.isFA VL = true := isFA_all fun t h => (askB_ok (VL_ask t h)).fz
theorem VL_add : pAdd [VL1, VL2] = some (.own (.lst true VL)) := by kernel_rfl
theorem VL_frz : (T.lst true VL).frz = .lst false VL := by
  rw [T.frz, frz_isFA VL_fa]
theorem any_t {t : T} (ht : IsTape t) {E : EK} {Q : Ent → List Ent → Prop} (k : ∀ u t', u ∈ VL → IsTape t' → Q (.own u) [.own t']) : (F_law_any [.own t]).w Q E := by
  unfold F_law_any
  simp! only [gmName]
  rw [w_thenS]
  simp! only [gmName]
  have hz : VL1.frz = VL1 := by kernel_rfl
  have ha := VL_add
  unfold VL1 at hz ha
  unfold VL2 at ha
  rw [hz, w_thenS]
  simp! only [ha, VL_frz]
  simp! only [T.isF, VL_fa, Ent.held, Bool.not_false]
  refine one_of_t ht (by decide +kernel) VL_fa fun u t' e hu hf ht' => ?_
  simp! only [gmName]
  exact ⟨hf, k _ _ hu ht'⟩
def T.isS : T → Bool
  | .str _ => true
  | _ => false
def T.sB (n : Nat) : T → Bool
  | .str x => txB n x
  | _ => true
/-- what is asked: a text, or a value that is none -/
def Cs (t : T) : Prop := (∃ x, t = .str x ∧ Tx 7000 x) ∨ (t ∈ VL ∧ t.isS = false)
theorem VL_cs {t : T} (h : t ∈ VL) : Cs t := by
  have h1 := List.all_eq_true.mp (show VL.all (T.sB 100) = true by decide +kernel) t h
  cases e : t.isS with
  | false => exact .inr ⟨h, e⟩
  | true =>
    cases t with
    | str x => exact .inl ⟨x, rfl, (txB_ok h1).mono (by omega)⟩
    | _ => cases e
/-- what is told of it -/
def outC (o : Bool) : T → T
  | .str x => outT (rd 0 [] (lns x))
  | _ => .lst o [.str "line", .int 1]
theorem isi_no {t : T} (h : t ∈ VL) (hs : t.isS = false) : pIsi "str" [t] = some (.own (.bl false)) := by
  have h1 := List.all_eq_true.mp (show VL.all (fun t => t.isS || (match pIsi "str" [t] with | some (.own (.bl false)) => true | _ => false)) = true by decide +kernel) t h
  rw [hs, Bool.false_or] at h1
  split at h1
  · assumption
  · cases h1
theorem found_c {t : T} (h : Cs t) {Q : Ent → List Ent → Prop} {E : EK} (k : ∀ r, Q (.own (outC true t)) r) : (F_law_found [.own t]).w Q E := by
  rcases h with ⟨x, rfl, hx⟩ | ⟨h, hs⟩
  · exact found_t (hx.lp (by omega)) k
  · have hk : outC true t = .lst true [.str "line", .int 1] := by cases t <;> first | rfl | cases hs
    rw [hk] at k
    have hz := (askB_ok (VL_ask t h)).fz
    have ea : (Ent.vw t).arg = .own t := by show (if t.isF = true then _ else _) = _; rw [if_pos hz]
    unfold F_law_found
    simp_all! only [w_try, w_lst, ea]
    unfold F_read_history
    simp! only [isi_no h hs, T.tru]
    rw [w_thenS]
    simp! only [isi_no h hs, T.tru, fz_own, T.frz]
    simp_all! only [w_out, w_exc, w_lst, keepAll, Ent.keep]
    rw [w_exc rfl]
    simp_all! only [gmName]
    exact ⟨by decide, k _⟩
theorem history_c {t : T} (h : Cs t) {Q : Ent → List Ent → Prop} {E : EK} (k : ∀ o r, Q (.own (outC o t)) r) : (F_law_history_of [.own t]).w Q E := by
  rcases h with ⟨x, rfl, hx⟩ | ⟨h, hs⟩
  · exact history_of_t (hx.lp (by omega)) (k true)
  · have hk : outC false t = .lst false [.str "line", .int 1] := by cases t <;> first | rfl | cases hs
    have k := k false
    rw [hk] at k
    unfold F_law_history_of
    simp! only [isi_no h hs, T.tru]
    rw [w_thenS]
    simp! only [isi_no h hs, T.tru]
    exact k _
theorem outC_repr {t : T} (h : Cs t) {o : Bool} : pRepr [outC o t] = some (.own (.str (outC true t).sh)) := by
  rcases h with ⟨x, rfl, hx⟩ | ⟨h, hs⟩
  · exact out_repr _
  · have hk : ∀ o, outC o t = .lst o [.str "line", .int 1] := fun o => by cases t <;> first | rfl | cases hs
    rw [hk, hk]
    cases o <;> exact repr_t (n := 9000) (k := 5) (fineTB_ok (by decide +kernel)) (by omega) (by omega)
theorem hx_tx {n : Nat} {x : Str} (h : Tx n x) : ∀ c ∈ x.cps.toList, c < 16 ^ 8 := fun c hc => by have := h.2 c hc; omega
theorem Cs.repr {t : T} (h : Cs t) : pRepr [t] = some (.own (.str t.sh)) := by
  rcases h with ⟨x, rfl, hx⟩ | ⟨h, hs⟩
  · have fP : FineT 700000 8 (.str x) := ⟨.str x, rfl, (fine_str (hx_tx hx) (by have := hx.1; omega) : Fine 700000 8 _)⟩
    exact repr_t fP (by omega) (by omega)
  · exact repr_t (askB_ok (VL_ask t h)).sh (by omega) (by omega)
theorem Cs.isF {t : T} (h : Cs t) : t.isF = true := by
  rcases h with ⟨x, rfl, hx⟩ | ⟨h, hs⟩
  · rfl
  · exact (askB_ok (VL_ask t h)).fz
end Rm
namespace Rm
open PySem PySem.Spec L2
open PyProof.Rows hiding St
local macro_rules | `(tactic| simp! only [$ts,*]) => `(tactic| simp only [w_def, w_if, w_test, w_bool, w_op, w_prim, w_cons, w_nil, w_name, w_c, w_pure, w_br, w_seqT, w_lst, w_chain, w_part, w_pureO, w_slice, w_drop, w_ret, w_retN, w_set, w_move, w_raise, w_asg, w_parN, w_par, w_plName, w_plFld, w_setF, w_setI, w_ddel, w_safe, w_callW, w_kNo, w_kLw, w_callR, w_methR, w_methW, w_methWK, w_nx, w_bk, w_ct, w_rt, w_ok, w_err, w_oerr, gmName, List.length_cons, List.length_nil, List.replicate, List.cons_append, List.nil_append, List.getElem?_cons_zero, List.getElem?_cons_succ, List.set_cons_zero, List.set_cons_succ, List.map_cons, List.map_nil, rdW_own, rdW_vw, mvW_own, Bool.true_or, Bool.false_or, Bool.or_true, true_and, and_true, t_own, t_vw, h_own, keep_own, fz_own, oW_some, oW_ite, bW_some, tW_some, tW_ite, T.bool, Option.map_some, finP, setN, Nat.zero_lt_succ, Nat.reduceLT, Nat.reduceAdd, Nat.reduceLeDiff, getK_hd, id_eq, prep, back, sfW, Bool.and_true, Bool.true_and, decide_true, decide_eq_true_eq, if_true, if_false, ite_true, ite_false, Bool.false_eq_true, eq_self, $ts,*])
def nLong : List Int := [59, 60, 61, 65, 70]
def wLong : List Str := ["start", "Begin", "save 1", ""]
theorem wLong_ok {x : Str} (h : x ∈ wLong) : Tx 6 x := txB_ok (List.all_eq_true.mp (show wLong.all (txB 6) = true by decide +kernel) x h)
theorem tot_set : ∀ {ws : List Str} {n : Nat} {w : Str} {m : Nat}, w.length ≤ m → tot (ws.set n w) ≤ tot ws + (m + 1)
  | [], _, _, _, _ => by simp [tot]
  | x :: ws, 0, w, m, h => by simp only [List.set_cons_zero, tot, List.map_cons, List.sum_cons]; omega
  | x :: ws, n + 1, w, m, h => by
    have := tot_set (ws := ws) (n := n) h
    simp only [List.set_cons_succ, tot, List.map_cons, List.sum_cons] at this ⊢
    omega
theorem Ps.set {n m : Nat} {ws : List Str} {w : Str} (h : Ps n ws) (hw : Tx m w) (i : Nat) : Ps (n + (m + 1)) (ws.set i w) := by
  refine ⟨?_, fun p q => ?_⟩
  · have := tot_set (ws := ws) (n := i) hw.1
    have := h.1
    omega
  · rcases List.mem_or_eq_of_mem_set q with q | q
    · exact h.2 p q
    · subst q; exact hw.2
theorem Ps.rep {m : Nat} {w : Str} (hw : Tx m w) : ∀ n : Nat, Ps (n * (m + 1)) (List.replicate n w)
  | 0 => ⟨by simp [tot], fun _ q => nomatch q⟩
  | n + 1 => by
    have h := (Ps.one hw).app (Ps.rep hw n)
    rw [List.replicate_succ, Nat.succ_mul]
    exact h.mono (by omega)
theorem rep_strs {w : Str} (n : Nat) : (List.replicate n [T.str w]).flatten = (List.replicate n w).map T.str := by
  induction n with
  | zero => rfl
  | succ n ih => rw [List.replicate_succ, List.flatten_cons, ih, List.replicate_succ]; rfl
theorem mul_w {w : Str} {n : Int} (h : 0 ≤ n ∧ n ≤ 100) : pMul [enc (.list [.str w]), .int n] = some (.own (.lst true ((List.replicate n.toNat w).map T.str))) := by
  show (if T.isFA [T.str w] = true ∧ (okR n = true ∧ [T.str w].length * n.toNat ≤ sizeLine) then some (Ent.own (.lst true (List.replicate n.toNat [T.str w]).flatten)) else none) = _
  rw [if_pos ⟨rfl, okR_of ⟨by omega, by omega⟩, le_line (by simp; omega)⟩, rep_strs]
/-- the parts of a law that does not stop -/
theorem long_t {t : T} (ht : IsTape t) {x0 x1 x2 x4 x5 x6 x7 x8 x9 y0 y1 y2 y3 : Ent} {I : List Ent → Prop} (k : ∀ ws t', Ps 1000 ws → IsTape t' → I [x0, x1, x2, .own t', x4, x5, x6, x7, x8, .own (.lst true (ws.map T.str)), y0, y1, y2, y3]) :
    ((mThen (mSet 9 (mOp pMul false (mC (enc (.list [(.str "begin")]))) (mCallW [.io 3, .val] F_law_one_of (mKNo 3 (mCons false (mC (enc (.list [(.int (59)), (.int (60)), (.int (61)), (.int (65)), (.int (70))]))) mNil))))) (mSetIL 9 (mCallW [.io 3, .val] F_law_pick (mKNo 3 (mCons false (mPrim pLen (mCons true (mName 9) mNil)) mNil))) (mCallW [.io 3, .val] F_law_one_of (mKNo 3 (mCons false (mC (enc (.list [(.str "start"), (.str "Begin"), (.str "save 1"), (.str "")]))) mNil))))) [x0, x1, x2, .own t, x4, x5, x6, x7, x8, x9, y0, y1, y2, y3]).w ⟨I, fun _ _ => False, fun _ => False, fun _ => False, noE⟩ := by
  rw [w_thenS]
  simp! only [T.isF, Ent.held]
  refine one_of_t (ts := nLong.map T.int) ht (by decide) (by decide) fun u t1 e hu hf ht1 => ?_
  obtain ⟨n, hn, rfl⟩ := List.mem_map.mp hu
  have hnb : 59 ≤ n ∧ n ≤ 70 := by
    simp only [nLong, List.mem_cons, List.not_mem_nil, or_false] at hn
    omega
  have hnf : (T.int n).isF = true := rfl
  simp! only [mul_w (w := "begin") (n := n) (by omega), Ent.keep, hnf]
  have hb : Tx 5 "begin" := txB_ok (by decide +kernel)
  have hws := Ps.rep hb n.toNat
  have hlen : (List.replicate n.toNat ("begin" : Str)).length = n.toNat := List.length_replicate
  generalize List.replicate n.toNat ("begin" : Str) = ws at *
  rw [w_setIL]
  simp! only [T.isF, Ent.held]
  refine one_of_t (ts := wLong.map T.str) ht1 (by decide) (isFA_strs _) fun u t2 e hu hf ht2 => ?_
  obtain ⟨w, hw, rfl⟩ := List.mem_map.mp hu
  have hwf : (T.str w).isF = true := rfl
  simp! only [Ent.keep, hwf, len_strs]
  refine pick_t ht2 (n := (ws.length : Int)) ⟨by omega, by omega⟩ fun r t3 hr ht3 => ?_
  have e1 : ixN (ws.map T.str).length r = some r.toNat := by
    unfold ixN
    rw [if_pos hr.1, List.length_map, if_pos hr.2]
  simp! only [Ent.keep, hwf, e1]
  have e2 : (ws.map T.str).set r.toNat (T.str w) = (ws.set r.toNat w).map T.str := by rw [List.map_set]
  rw [e2]
  refine k _ t3 ((hws.set (wLong_ok hw) _).mono ?_) ht3
  have : n.toNat ≤ 70 := by omega
  omega
end Rm
namespace Rm
open PySem PySem.Spec L2
open PyProof.Rows hiding St
local macro_rules | `(tactic| simp_all! only [$ts,*]) => `(tactic| simp only [w_def, w_thenS, w_if, w_test, w_bool, w_op, w_prim, w_cons, w_nil, w_name, w_c, w_pure, w_br, w_seqT, w_lst, w_chain, w_part, w_pureO, w_slice, w_drop, w_ret, w_retN, w_set, w_move, w_raise, w_asg, w_parN, w_par, w_plName, w_plFld, w_setF, w_setI, w_ddel, w_safe, w_callW, w_kNo, w_kLw, w_callR, w_methR, w_methW, w_methWK, w_nx, w_bk, w_ct, w_rt, w_ok, w_err, w_oerr, gmName, List.length_cons, List.length_nil, List.replicate, List.cons_append, List.nil_append, List.getElem?_cons_zero, List.getElem?_cons_succ, List.set_cons_zero, List.set_cons_succ, List.map_cons, List.map_nil, rdW_own, rdW_vw, mvW_own, Bool.true_or, Bool.false_or, Bool.or_true, true_and, and_true, t_own, t_vw, h_own, keep_own, fz_own, oW_some, oW_ite, bW_some, tW_some, tW_ite, T.bool, Option.map_some, finP, setN, Nat.zero_lt_succ, Nat.reduceLT, Nat.reduceAdd, Nat.reduceLeDiff, getK_hd, id_eq, prep, back, sfW, Bool.and_true, Bool.true_and, decide_true, decide_eq_true_eq, if_true, if_false, ite_true, ite_false, Bool.false_eq_true, eq_self, $ts,*])
theorem w_app2 {i : Nat} {m : List Ent → R Ent} {ρ : List Ent} {ts : List T} {Q : Ent → List Ent → Prop} {E : EK} (hi : ρ[i]? = some (.own (.lst true ts))) (h : ts.length < sizeLine) (k : (m ρ).w (fun e ρ1 => ρ1[i]? = some (.own (.lst true ts)) ∧ tW e.keep fun u => Q (.own .non) (ρ1.set i (.own (.lst true (ts ++ [u]))))) E) : (mMethN i fAppend (mCons true m mNil) ρ).w Q E := by
  unfold mMethN
  rw [hi]
  dsimp only
  rw [w_bind, w_cons]
  refine R.w_imp k (fun e ρ1 hq => ?_) (fun _ _ _ q => q)
  obtain ⟨h1, hq⟩ := hq
  refine ⟨rfl, ?_⟩
  rw [w_nil]
  rw [h1]
  dsimp only [fAppend]
  cases e2 : e.keep with
  | none => rw [e2] at hq; exact hq.elim
  | some u =>
    rw [e2] at hq
    dsimp only
    rw [if_pos h]
    exact hq
theorem then_assoc {a b c : List Ent → O} : mThen a (mThen b c) = mThen (mThen a b) c := by
  funext ρ
  unfold mThen
  cases a ρ <;> rfl
theorem add_lst {a b : Bool} {xs ys : List T} (h1 : T.isFA xs = true) (h2 : T.isFA ys = true) (hl : xs.length + ys.length ≤ 100000) : pAdd [.lst a xs, .lst b ys] = some (.own (.lst true (xs ++ ys))) := by
  show (if (T.isFA xs && T.isFA ys) = true ∧ xs.length + ys.length ≤ sizeLine then _ else _) = _
  rw [if_pos ⟨by rw [h1, h2]; rfl, le_line hl⟩]
def sgn : Str := " !\"#$&'()*+,-./0123456789:;<=>?@ABCDEFGHIJKLMNOPQRSTUVWXYZ[\\]^_`abcdefghijklmnopqrstuvwxyz{|}~"
def itS (i : Nat) : Bool := match pItem [.str sgn, .int (i : Int)] with
  | some (.vw (.str s)) => txB 1 s
  | _ => false
theorem one_sgn {t : T} (ht : IsTape t) {Q : Ent → List Ent → Prop} {E : EK} (k : ∀ s t' e, Tx 1 s → IsTape t' → Q (.vw (.str s)) [.own t', e]) : (F_law_one_of [.own t, .own (.str sgn)]).w Q E := by
  unfold F_law_one_of
  have e : pLen [.str sgn] = some (.own (.int 94)) := by kernel_rfl
  simp_all! only [e, T.isF, Ent.held]
  refine pick_t (n := 94) ht ⟨by omega, by omega⟩ fun r t' hr ht' => ?_
  have h0 : (List.range 94).all itS = true := by decide +kernel
  have := List.all_eq_true.mp h0 r.toNat (List.mem_range.mpr (by omega))
  unfold itS at this
  rw [show ((r.toNat : Nat) : Int) = r by omega] at this
  split at this
  · rename_i s h3
    simp_all! only [h3]
    exact k s t' _ (txB_ok this) ht'
  · cases this
theorem Cs.str {n : Nat} {x : Str} (h : Tx n x) (hn : n ≤ 7000) : Cs (.str x) := .inl ⟨x, rfl, h.mono hn⟩
/-- the cases -/
structure Cl (m : Nat) (cs : List T) : Prop where
  c : ∀ t ∈ cs, Cs t
  l : cs.length ≤ m
theorem Cl.isF {m : Nat} {cs : List T} (h : Cl m cs) : T.isFA cs = true := isFA_all fun t q => (h.c t q).isF
theorem Cl.app {m n : Nat} {a b : List T} (h : Cl m a) (h' : Cl n b) : Cl (m + n) (a ++ b) := ⟨fun t q => (List.mem_append.mp q).elim (h.c t) (h'.c t), by rw [List.length_append]; have := h.l; have := h'.l; omega⟩
theorem Cl.nil : Cl 0 [] := ⟨(fun _ q => nomatch q), Nat.le_refl _⟩
theorem Cl.cons {m : Nat} {t : T} {cs : List T} (h : Cs t) (h' : Cl m cs) : Cl (m + 1) (t :: cs) := ⟨fun u q => (List.mem_cons.mp q).elim (fun e => e ▸ h) (h'.c u), by rw [List.length_cons]; have := h'.l; omega⟩
theorem case1_t {u : T} (hu : Cs u) {x0 x1 x2 x3 x4 x5 x6 x7 x9 y0 y1 y2 y3 : Ent} {I : List Ent → Prop} (k : ∀ cs, Cl 7 cs → I [x0, x1, x2, x3, x4, x5, x6, x7, .own u, x9, .own (.lst true cs), y1, y2, y3]) :
    ((mSet 10 (mLst (mCons true (mName 8) (mCons true (mC (.str "\n")) (mCons true (mC (.str " ")) (mCons true (mC (.str "begin\n")) (mCons true (mC (.str "\nbegin")) (mCons true (mOp pAdd true (mOp pMulS true (mC (.str "begin\n")) (mC (.int (60)))) (mC (.str "begin"))) (mCons true (mOp pAdd true (mOp pMulS true (mC (.str "clean\n")) (mC (.int (59)))) (mC (.str "clean"))) mNil))))))))) [x0, x1, x2, x3, x4, x5, x6, x7, .own u, x9, y0, y1, y2, y3]).w ⟨I, fun _ _ => False, fun _ => False, fun _ => False, noE⟩ := by
  have hf := hu.isF
  have m1 : pMulS [.str "begin\n", .int 60] = some (.own (.str (Txt.mul "begin\n" 60))) := by kernel_rfl
  have m2 : pMulS [.str "clean\n", .int 59] = some (.own (.str (Txt.mul "clean\n" 59))) := by kernel_rfl
  have t1 : Tx 400 (Txt.mul "begin\n" 60) := txB_ok (by decide +kernel)
  have t2 : Tx 400 (Txt.mul "clean\n" 59) := txB_ok (by decide +kernel)
  have t3 : Tx 6 "begin" := txB_ok (by decide +kernel)
  have t4 : Tx 6 "clean" := txB_ok (by decide +kernel)
  have t5 : Tx 6 "\n" := txB_ok (by decide +kernel)
  have t6 : Tx 6 " " := txB_ok (by decide +kernel)
  have t7 : Tx 6 "begin\n" := txB_ok (by decide +kernel)
  have t8 : Tx 6 "\nbegin" := txB_ok (by decide +kernel)
  generalize Txt.mul "begin\n" 60 = z1 at *
  generalize Txt.mul "clean\n" 59 = z2 at *
  have a1 := add_str t1 t3 (by omega)
  have a2 := add_str t2 t4 (by omega)
  simp_all! only [w_lst, m1, m2, a1, a2, keepAll, Ent.keep, hf]
  exact ⟨by decide, k _ (.cons hu (.cons (.str t5 (by omega)) (.cons (.str t6 (by omega)) (.cons (.str t7 (by omega)) (.cons (.str t8 (by omega)) (.cons (.str (t1.app t3) (by omega)) (.cons (.str (t2.app t4) (by omega)) .nil)))))))⟩
theorem case2_t {ws : List Str} (hw : Ps 1000 ws) {cs : List T} (hc : Cl 7 cs) {x0 x1 x2 x3 x4 x5 x6 x7 x8 y1 y2 y3 : Ent} {I : List Ent → Prop} (k : ∀ cs, Cl 9 cs → I [x0, x1, x2, x3, x4, x5, x6, x7, x8, .own (.lst true (ws.map T.str)), .own (.lst true cs), y1, y2, y3]) :
    ((mSet 10 (mOp pAdd true (mName 10) (mLst (mCons true (mFz (mM1 pJoin (mC (.str "\n")) (mName 9))) (mCons true (mFz (mM1 pJoin (mC (.str "\n")) (mOp pMul true (mC (enc (.list [(.str "clean")]))) (mC (.int (65)))))) mNil))))) [x0, x1, x2, x3, x4, x5, x6, x7, x8, .own (.lst true (ws.map T.str)), .own (.lst true cs), y1, y2, y3]).w ⟨I, fun _ _ => False, fun _ => False, fun _ => False, noE⟩ := by
  have l10 : ("\n" : Str) = ⟨#[10]⟩ := by decide +kernel
  have m1 := mul_w (w := "clean") (n := 65) (by omega)
  have hb : Tx 5 "clean" := txB_ok (by decide +kernel)
  have h2 := (Ps.rep hb (65 : Int).toNat).mono (m := 1000) (by decide)
  generalize List.replicate (65 : Int).toNat ("clean" : Str) = vs at *
  have j1 := hw.join (c := 10) (by omega) (by decide) (o := true)
  have j2 := h2.join (c := 10) (by omega) (by decide) (o := true)
  have hl : Cl 2 [.str (Txt.join ⟨#[10]⟩ ws), .str (Txt.join ⟨#[10]⟩ vs)] := .cons (.str j1.2 (by omega)) (.cons (.str j2.2 (by omega)) .nil)
  have ha := add_lst (a := true) (b := true) hc.isF hl.isF (by have := hc.l; have := hl.l; omega)
  simp_all! only [w_lst, w_fz, w_m1, T.asS, l10, m1, j1.1, j2.1, keepAll, Ent.keep, Ent.fz, T.frz, ha]
  exact ⟨by decide, k _ (hc.app hl)⟩
theorem case3_t {t : T} (ht : IsTape t) {cs : List T} (hc : Cl 9 cs) {x0 x1 x2 x4 x5 x6 x7 x8 x9 y2 y3 : Ent} {I : List Ent → Prop} (k : ∀ cs t', Cl 10 cs → IsTape t' → I [x0, x1, x2, .own t', x4, x5, x6, x7, x8, x9, .own (.lst true cs), .own (.str sgn), y2, y3]) :
    ((mDrop (mMethN 10 fAppend (mCons true (mOp pAdd true (mOp pAdd false (mC (.str "lock 1 a")) (mCallW [.io 3, .val] F_law_one_of (mKNo 3 (mCons false (mName 11) mNil)))) (mC (.str "b hold"))) mNil))) [x0, x1, x2, .own t, x4, x5, x6, x7, x8, x9, .own (.lst true cs), .own (.str sgn), y2, y3]).w ⟨I, fun _ _ => False, fun _ => False, fun _ => False, noE⟩ := by
  have t1 : Tx 8 "lock 1 a" := txB_ok (by decide +kernel)
  have t2 : Tx 8 "b hold" := txB_ok (by decide +kernel)
  rw [w_drop]
  refine w_app2 rfl (lt_line (by have := hc.l; omega)) ?_
  simp_all! only [T.isF, Ent.held]
  refine one_sgn ht fun s t' e hs ht' => ?_
  have hsf : (T.str s).isF = true := rfl
  have a1 := add_str t1 hs (by omega)
  have a2 := add_str (t1.app hs) t2 (by omega)
  simp_all! only [hsf, a1, a2, Ent.keep]
  exact k _ t' (hc.app (.cons (.str ((t1.app hs).app t2) (by omega)) .nil)) ht'
theorem case4_t {n : Int} {z1 : Str} (m1 : pMulS [.str "9", .int n] = some (.own (.str z1))) (t1 : Tx 5000 z1) {cs : List T} (hc : Cl 10 cs) {x0 x1 x2 x3 x4 x5 x6 x7 x8 x9 y1 y2 y3 : Ent} {I : List Ent → Prop} (k : ∀ cs, Cl 14 cs → I [x0, x1, x2, x3, x4, x5, x6, x7, x8, x9, .own (.lst true cs), y1, y2, y3]) :
    ((mSet 10 (mOp pAdd true (mName 10) (mLst (mCons true (mC (.str "save 1_0")) (mCons true (mOp pAdd true (mC (.str "save ")) (mOp pMulS true (mC (.str "9")) (mC (.int n)))) (mCons true (mOp pAdd true (mC (.str "change 1 x change -")) (mOp pMulS true (mC (.str "9")) (mC (.int n)))) (mCons true (mC (.str "horizon 3\t")) mNil))))))) [x0, x1, x2, x3, x4, x5, x6, x7, x8, x9, .own (.lst true cs), y1, y2, y3]).w ⟨I, fun _ _ => False, fun _ => False, fun _ => False, noE⟩ := by
  have t2 : Tx 30 "save " := txB_ok (by decide +kernel)
  have t3 : Tx 30 "change 1 x change -" := txB_ok (by decide +kernel)
  have t4 : Tx 30 "save 1_0" := txB_ok (by decide +kernel)
  have t5 : Tx 30 "horizon 3\t" := txB_ok (by decide +kernel)
  have a1 := add_str t2 t1 (by omega)
  have a2 := add_str t3 t1 (by omega)
  have hl : Cl 4 [.str "save 1_0", .str ("save " ++ z1), .str ("change 1 x change -" ++ z1), .str "horizon 3\t"] := .cons (.str t4 (by omega)) (.cons (.str (t2.app t1) (by omega)) (.cons (.str (t3.app t1) (by omega)) (.cons (.str t5 (by omega)) .nil)))
  have ha := add_lst (a := true) (b := true) hc.isF hl.isF (by have := hc.l; have := hl.l; omega)
  simp_all! only [w_lst, m1, a1, a2, keepAll, Ent.keep, ha]
  exact ⟨by decide, k _ (hc.app hl)⟩
end Rm
namespace Rm
open PySem PySem.Spec L2
open PyProof.Rows hiding St
local macro_rules | `(tactic| simp_all! only [$ts,*]) => `(tactic| simp only [w_def, w_thenS, w_if, w_test, w_bool, w_op, w_prim, w_cons, w_nil, w_name, w_c, w_pure, w_br, w_seqT, w_lst, w_chain, w_part, w_pureO, w_slice, w_drop, w_ret, w_retN, w_set, w_move, w_raise, w_asg, w_parN, w_par, w_plName, w_plFld, w_setF, w_setI, w_ddel, w_safe, w_callW, w_kNo, w_kLw, w_callR, w_methR, w_methW, w_methWK, w_nx, w_bk, w_ct, w_rt, w_ok, w_err, w_oerr, gmName, List.length_cons, List.length_nil, List.replicate, List.cons_append, List.nil_append, List.getElem?_cons_zero, List.getElem?_cons_succ, List.set_cons_zero, List.set_cons_succ, List.map_cons, List.map_nil, rdW_own, rdW_vw, mvW_own, Bool.true_or, Bool.false_or, Bool.or_true, true_and, and_true, t_own, t_vw, h_own, keep_own, fz_own, oW_some, oW_ite, bW_some, tW_some, tW_ite, T.bool, Option.map_some, finP, setN, Nat.zero_lt_succ, Nat.reduceLT, Nat.reduceAdd, Nat.reduceLeDiff, getK_hd, id_eq, prep, back, sfW, Bool.and_true, Bool.true_and, decide_true, decide_eq_true_eq, if_true, if_false, ite_true, ite_false, Bool.false_eq_true, eq_self, $ts,*])
local macro_rules | `(tactic| simp! only [$ts,*]) => `(tactic| simp only [w_def, w_if, w_test, w_bool, w_op, w_prim, w_cons, w_nil, w_name, w_c, w_pure, w_br, w_seqT, w_lst, w_chain, w_part, w_pureO, w_slice, w_drop, w_ret, w_retN, w_set, w_move, w_raise, w_asg, w_parN, w_par, w_plName, w_plFld, w_setF, w_setI, w_ddel, w_safe, w_callW, w_kNo, w_kLw, w_callR, w_methR, w_methW, w_methWK, w_nx, w_bk, w_ct, w_rt, w_ok, w_err, w_oerr, gmName, List.length_cons, List.length_nil, List.replicate, List.cons_append, List.nil_append, List.getElem?_cons_zero, List.getElem?_cons_succ, List.set_cons_zero, List.set_cons_succ, List.map_cons, List.map_nil, rdW_own, rdW_vw, mvW_own, Bool.true_or, Bool.false_or, Bool.or_true, true_and, and_true, t_own, t_vw, h_own, keep_own, fz_own, oW_some, oW_ite, bW_some, tW_some, tW_ite, T.bool, Option.map_some, finP, setN, Nat.zero_lt_succ, Nat.reduceLT, Nat.reduceAdd, Nat.reduceLeDiff, getK_hd, id_eq, prep, back, sfW, Bool.and_true, Bool.true_and, decide_true, decide_eq_true_eq, if_true, if_false, ite_true, ite_false, Bool.false_eq_true, eq_self, $ts,*])
theorem cases_t {cs : List T} (hc : Cl 14 cs) {x0 x1 x2 x3 x4 x5 x6 x7 x8 x9 y1 y2 y3 : Ent} {I : List Ent → Prop} (k : ∀ y2 y3, I [x0, x1, x2, x3, x4, x5, x6, x7, x8, x9, .own (.lst true cs), y1, y2, y3]) :
    ((mFor (mItV (mOp pAdd true (mName 10) (mC (enc (.list [(.str "change 1 x change 7_0"), (.str "begin\tclean")]))))) (gmName 12) (mThen (mSet 13 (mPrim pRepr (mCons true (mName 12) mNil)))
  (mIf (mBr (mTest T.bool (mOp pNe true (mPrim pRepr (mCons true (mCallR F_law_found (mCons true (mName 12) mNil)) mNil)) (mPrim pRepr (mCons true (mCallR F_law_history_of (mCons true (mName 12) mNil)) mNil)))) (mPure true) (mTest T.bool (mOp pNe true (mPrim pRepr (mCons true (mName 12) mNil)) (mName 13)))) (mRet (mC (.bl false))) .nx))) [x0, x1, x2, x3, x4, x5, x6, x7, x8, x9, .own (.lst true cs), y1, y2, y3]).w ⟨I, fun _ _ => False, fun _ => False, fun _ => False, noE⟩ := by
  have t2 : Tx 30 "change 1 x change 7_0" := txB_ok (by decide +kernel)
  have t3 : Tx 30 "begin\tclean" := txB_ok (by decide +kernel)
  have hl : Cl 2 [.str "change 1 x change 7_0", .str "begin\tclean"] := .cons (.str t2 (by omega)) (.cons (.str t3 (by omega)) .nil)
  have ha : pAdd [.lst true cs, enc (.list [(.str "change 1 x change 7_0"), (.str "begin\tclean")])] = some (.own (.lst true (cs ++ [.str "change 1 x change 7_0", .str "begin\tclean"]))) := by
    have h := add_lst (a := true) (b := false) hc.isF hl.isF (by have := hc.l; have := hl.l; omega)
    exact h
  have hcl := hc.app hl
  have hfa := hcl.isF
  rw [w_for, w_itV]
  simp_all! only [ha, T.items, Ent.fz, T.frz, frz_isFA hfa]
  refine forM_n (fun us ρ => (∀ u ∈ us, Cs u) ∧ ∃ y2 y3, ρ = [x0, x1, x2, x3, x4, x5, x6, x7, x8, x9, .own (.lst true cs), y1, y2, y3]) (fun ρ h => ?_) (fun u us ρ h => ?_) _ _ ⟨hcl.c, y2, y3, rfl⟩
  · obtain ⟨_, y2, y3, rfl⟩ := h
    exact k y2 y3
  · obtain ⟨h1, y2, y3, rfl⟩ := h
    have hu := h1 u List.mem_cons_self
    have huz : u.frz = u := frz_isF hu.isF
    have ea : (Ent.vw u).arg = .own u := by show (if u.isF = true then _ else _) = _; rw [if_pos hu.isF]
    simp! only [huz]
    rw [w_thenS]
    simp! only [huz, hu.repr, Ent.keep, ea]
    refine found_c hu fun r => ?_
    simp! only [outC_repr hu, ea]
    refine history_c hu fun o r => ?_
    simp! only [outC_repr hu, ne_str, hu.repr]
    exact ⟨fun u q => h1 u (List.mem_cons_of_mem _ q), _, _, rfl⟩
theorem turn_t {t : T} (ht : IsTape t) {x0 x2 x4 x5 x6 x7 x8 x9 y0 y1 y2 y3 : Ent} {I : List Ent → Prop} (k : ∀ t' x5 x6 x7, IsTape t' → I [x0, .own (.lst false (oddT.map T.str)), x2, .own t', x4, x5, x6, x7, x8, x9, y0, y1, y2, y3]) :
    ((mThen (mAsg (mCallR F_law_deeds_text (mCons true (mFz (mLc [6] (mRange1 (mCallW [.io 3, .val] F_law_pick (mKNo 3 (mCons false (mC (.int (10))) mNil)))) (gmName 6) (mPure true) (mCallW [.io 3] F_law_some_deed (mKNo 3 mNil)))) mNil)) (gmName 5))
  (mThen (mFor (mRange1 (mOp pAdd false (mC (.int (1))) (mCallW [.io 3, .val] F_law_pick (mKNo 3 (mCons false (mC (.int (3))) mNil))))) (gmName 7) (mAsg (mCallW [.io 3, .val, .val] F_law_bent (mKNo 3 (mCons false (mName 5) (mCons false (mName 1) mNil)))) (gmName 5)))
  (mIf (mTest T.bool (mOp pNe true (mPrim pRepr (mCons true (mCallR F_law_found (mCons true (mName 5) mNil)) mNil)) (mPrim pRepr (mCons true (mCallR F_law_history_of (mCons true (mName 5) mNil)) mNil)))) (mRet (mC (.bl false))) .nx))) [x0, .own (.lst false (oddT.map T.str)), x2, .own t, x4, x5, x6, x7, x8, x9, y0, y1, y2, y3]).w ⟨I, fun _ _ => False, fun _ => False, fun _ => False, noE⟩ := by
  rw [w_thenS]
  refine O.w_nx (I := fun ρ => ∃ x t', Tx 2000 x ∧ IsTape t' ∧ ρ = [x0, .own (.lst false (oddT.map T.str)), x2, .own t', x4, .own (.str x), .no, x7, x8, x9, y0, y1, y2, y3]) (draw_t ht fun x t' h1 h2 => ⟨x, t', h1, h2, rfl⟩) ?_
  rintro ρ ⟨x, t1, hx, ht1, rfl⟩
  dsimp only
  rw [w_thenS]
  refine O.w_nx (I := fun ρ => ∃ x t' x7, Lp x ∧ IsTape t' ∧ ρ = [x0, .own (.lst false (oddT.map T.str)), x2, .own t', x4, .own (.str x), .no, x7, x8, x9, y0, y1, y2, y3]) (bends_t ht1 hx fun x t' x7 h1 h2 => ⟨x, t', x7, h1, h2, rfl⟩) ?_
  rintro ρ ⟨x, t2, x7, hx, ht2, rfl⟩
  dsimp only
  have ea : (Ent.vw (.str x)).arg = .own (.str x) := rfl
  simp_all! only [ea]
  refine found_t hx fun r => ?_
  simp_all! only [out_repr, ea]
  refine history_of_t hx fun r => ?_
  simp_all! only [out_repr, ne_str]
  exact k t2 _ _ _ ht2
theorem seq_cut {a b : List Ent → O} {ρ : List Ent} {D : OK} {I : List Ent → Prop} (h : (a ρ).w ⟨I, fun _ _ => False, fun _ => False, fun _ => False, noE⟩) (k : ∀ ρ', I ρ' → (b ρ').w D) : (mThen a b ρ).w D := by
  rw [w_thenS]
  exact O.w_nx h k
theorem seq_cut2 {a b c : List Ent → O} {ρ : List Ent} {D : OK} {I : List Ent → Prop} (h : (mThen a b ρ).w ⟨I, fun _ _ => False, fun _ => False, fun _ => False, noE⟩) (k : ∀ ρ', I ρ' → (c ρ').w D) : (mThen a (mThen b c) ρ).w D := by
  rw [then_assoc]
  exact seq_cut h k
abbrev nxD (I : List Ent → Prop) : OK := ⟨I, fun _ _ => False, fun _ => False, fun _ => False, noE⟩
def p1 : List Ent → O := (mSet 3 (mCallR F_law_tape (mCons true (mName 0) (mCons true (mName 2) mNil))))
def p2 : List Ent → O := (mFor (mRange1 (mC (.int (12)))) (gmName 4) (mThen (mAsg (mCallR F_law_deeds_text (mCons true (mFz (mLc [6] (mRange1 (mCallW [.io 3, .val] F_law_pick (mKNo 3 (mCons false (mC (.int (10))) mNil)))) (gmName 6) (mPure true) (mCallW [.io 3] F_law_some_deed (mKNo 3 mNil)))) mNil)) (gmName 5))
  (mThen (mFor (mRange1 (mOp pAdd false (mC (.int (1))) (mCallW [.io 3, .val] F_law_pick (mKNo 3 (mCons false (mC (.int (3))) mNil))))) (gmName 7) (mAsg (mCallW [.io 3, .val, .val] F_law_bent (mKNo 3 (mCons false (mName 5) (mCons false (mName 1) mNil)))) (gmName 5)))
  (mIf (mTest T.bool (mOp pNe true (mPrim pRepr (mCons true (mCallR F_law_found (mCons true (mName 5) mNil)) mNil)) (mPrim pRepr (mCons true (mCallR F_law_history_of (mCons true (mName 5) mNil)) mNil)))) (mRet (mC (.bl false))) .nx))))
def p3 : List Ent → O := (mSet 8 (mCallW [.io 3] F_law_any (mKNo 3 mNil)))
def p4 : List Ent → O := (mSet 9 (mOp pMul false (mC (enc (.list [(.str "begin")]))) (mCallW [.io 3, .val] F_law_one_of (mKNo 3 (mCons false (mC (enc (.list [(.int (59)), (.int (60)), (.int (61)), (.int (65)), (.int (70))]))) mNil)))))
def p5 : List Ent → O := (mSetIL 9 (mCallW [.io 3, .val] F_law_pick (mKNo 3 (mCons false (mPrim pLen (mCons true (mName 9) mNil)) mNil))) (mCallW [.io 3, .val] F_law_one_of (mKNo 3 (mCons false (mC (enc (.list [(.str "start"), (.str "Begin"), (.str "save 1"), (.str "")]))) mNil))))
def p6 : List Ent → O := (mSet 10 (mLst (mCons true (mName 8) (mCons true (mC (.str "
")) (mCons true (mC (.str " ")) (mCons true (mC (.str "begin
")) (mCons true (mC (.str "
begin")) (mCons true (mOp pAdd true (mOp pMulS true (mC (.str "begin
")) (mC (.int (60)))) (mC (.str "begin"))) (mCons true (mOp pAdd true (mOp pMulS true (mC (.str "clean
")) (mC (.int (59)))) (mC (.str "clean"))) mNil)))))))))
def p7 : List Ent → O := (mSet 10 (mOp pAdd true (mName 10) (mLst (mCons true (mFz (mM1 pJoin (mC (.str "
")) (mName 9))) (mCons true (mFz (mM1 pJoin (mC (.str "
")) (mOp pMul true (mC (enc (.list [(.str "clean")]))) (mC (.int (65)))))) mNil)))))
def p8 : List Ent → O := (mAsg (mC (.str " !\"#$&'()*+,-./0123456789:;<=>?@ABCDEFGHIJKLMNOPQRSTUVWXYZ[\\]^_`abcdefghijklmnopqrstuvwxyz{|}~")) (gmName 11))
def p9 : List Ent → O := (mDrop (mMethN 10 fAppend (mCons true (mOp pAdd true (mOp pAdd false (mC (.str "lock 1 a")) (mCallW [.io 3, .val] F_law_one_of (mKNo 3 (mCons false (mName 11) mNil)))) (mC (.str "b hold"))) mNil)))
def p10 (n : Int) : List Ent → O := (mSet 10 (mOp pAdd true (mName 10) (mLst (mCons true (mC (.str "save 1_0")) (mCons true (mOp pAdd true (mC (.str "save ")) (mOp pMulS true (mC (.str "9")) (mC (.int n)))) (mCons true (mOp pAdd true (mC (.str "change 1 x change -")) (mOp pMulS true (mC (.str "9")) (mC (.int n)))) (mCons true (mC (.str "horizon 3	")) mNil)))))))
def p11 : List Ent → O := (mFor (mItV (mOp pAdd true (mName 10) (mC (enc (.list [(.str "change 1 x change 7_0"), (.str "begin	clean")]))))) (gmName 12) (mThen (mSet 13 (mPrim pRepr (mCons true (mName 12) mNil)))
  (mIf (mBr (mTest T.bool (mOp pNe true (mPrim pRepr (mCons true (mCallR F_law_found (mCons true (mName 12) mNil)) mNil)) (mPrim pRepr (mCons true (mCallR F_law_history_of (mCons true (mName 12) mNil)) mNil)))) (mPure true) (mTest T.bool (mOp pNe true (mPrim pRepr (mCons true (mName 12) mNil)) (mName 13)))) (mRet (mC (.bl false))) .nx)))
def body90 (n : Int) : List Ent → O := (mThen p1 (mThen p2 (mThen p3 (mThen p4 (mThen p5 (mThen p6 (mThen p7 (mThen p8 (mThen p9 (mThen (p10 n) p11))))))))))
theorem turns_t {x0 x2 x8 x9 y0 y1 y2 y3 : Ent} {t : T} (ht : IsTape t) {r4 r5 r6 r7 : Ent} {I : List Ent → Prop} (k : ∀ t r4 r5 r6 r7, IsTape t → I [x0, .own (.lst false (oddT.map T.str)), x2, .own t, r4, r5, r6, r7, x8, x9, y0, y1, y2, y3]) :
    (p2 [x0, .own (.lst false (oddT.map T.str)), x2, .own t, r4, r5, r6, r7, x8, x9, y0, y1, y2, y3]).w (nxD I) := by
  unfold p2
  rw [w_for, w_range1]
  simp! only [gmName]
  refine ⟨by decide, ?_⟩
  refine forM_n (fun us ρ => ∃ t r4 r5 r6 r7, IsTape t ∧ ρ = [x0, .own (.lst false (oddT.map T.str)), x2, .own t, r4, r5, r6, r7, x8, x9, y0, y1, y2, y3]) (fun ρ h => ?_) (fun u us ρ h => ?_) _ _ ⟨t, _, _, _, _, ht, rfl⟩
  · obtain ⟨t, r4, r5, r6, r7, ht, rfl⟩ := h
    exact k t r4 r5 r6 r7 ht
  · obtain ⟨t, r4, r5, r6, r7, ht, rfl⟩ := h
    simp! only [gmName]
    refine O.w_nx (I := fun ρ => ∃ t r4 r5 r6 r7, IsTape t ∧ ρ = [x0, .own (.lst false (oddT.map T.str)), x2, .own t, r4, r5, r6, r7, x8, x9, y0, y1, y2, y3]) (turn_t ht fun t' x5 x6 x7 ht' => ⟨t', _, x5, x6, x7, ht', rfl⟩) ?_
    exact fun ρ h => h
theorem tape_s {ns : List Int} (hl : ns.length < 1000) (hb : ∀ z ∈ ns, Builtin.Int.intBits z ≤ 1048576) {st : Int} (hst : 0 ≤ st ∧ st < 3) {x1 x3 x4 x5 x6 x7 x8 x9 y0 y1 y2 y3 : Ent} {I : List Ent → Prop} (k : ∀ t, IsTape t → I [.own (.scr (ns.map T.int)), x1, .own (.int st), .own t, x4, x5, x6, x7, x8, x9, y0, y1, y2, y3]) :
    ((mSet 3 (mCallR F_law_tape (mCons true (mName 0) (mCons true (mName 2) mNil)))) [.own (.scr (ns.map T.int)), x1, .own (.int st), x3, x4, x5, x6, x7, x8, x9, y0, y1, y2, y3]).w (nxD I) := by
  simp_all! only [Ent.arg, T.isF, isFA_ints]
  refine tape_t hst hl hb fun t r ht => ?_
  simp_all! only [Ent.keep]
  exact k t ht
theorem any_s {t : T} (ht : IsTape t) {x0 x1 x2 x4 x5 x6 x7 x8 x9 y0 y1 y2 y3 : Ent} {I : List Ent → Prop} (k : ∀ u t, u ∈ VL → IsTape t → I [x0, x1, x2, .own t, x4, x5, x6, x7, .own u, x9, y0, y1, y2, y3]) :
    ((mSet 8 (mCallW [.io 3] F_law_any (mKNo 3 mNil))) [x0, x1, x2, .own t, x4, x5, x6, x7, x8, x9, y0, y1, y2, y3]).w (nxD I) := by
  simp_all! only [gmName]
  refine any_t ht fun u t' hu ht' => ?_
  simp_all! only [Ent.keep]
  exact k u t' hu ht'
theorem sgn_s {x0 x1 x2 x3 x4 x5 x6 x7 x8 x9 y0 y1 y2 y3 : Ent} {I : List Ent → Prop} (k : I [x0, x1, x2, x3, x4, x5, x6, x7, x8, x9, y0, .own (.str sgn), y2, y3]) :
    ((mAsg (mC (.str sgn)) (gmName 11)) [x0, x1, x2, x3, x4, x5, x6, x7, x8, x9, y0, y1, y2, y3]).w (nxD I) := by
  simp only [w_def, w_thenS, w_if, w_test, w_bool, w_op, w_prim, w_cons, w_nil, w_name, w_c, w_pure, w_br, w_seqT, w_lst, w_chain, w_part, w_pureO, w_slice, w_drop, w_ret, w_retN, w_set, w_move, w_raise, w_parN, w_par, w_plName, w_plFld, w_setF, w_setI, w_ddel, w_safe, w_callW, w_kNo, w_kLw, w_callR, w_methR, w_methW, w_methWK, w_nx, w_bk, w_ct, w_rt, w_ok, w_err, w_oerr, gmName, List.length_cons, List.length_nil, List.replicate, List.cons_append, List.nil_append, List.getElem?_cons_zero, List.getElem?_cons_succ, List.set_cons_zero, List.set_cons_succ, List.map_cons, List.map_nil, rdW_own, rdW_vw, mvW_own, Bool.true_or, Bool.false_or, Bool.or_true, true_and, and_true, t_own, t_vw, h_own, keep_own, fz_own, oW_some, oW_ite, bW_some, tW_some, tW_ite, T.bool, Option.map_some, finP, setN, Nat.zero_lt_succ, Nat.reduceLT, Nat.reduceAdd, Nat.reduceLeDiff, getK_hd, id_eq, prep, back, sfW, Bool.and_true, Bool.true_and, decide_true, decide_eq_true_eq, if_true, if_false, ite_true, ite_false, Bool.false_eq_true, eq_self, w_asgN, Ent.fz, T.frz]
  exact k
theorem seq_dir {a b : List Ent → O} {ρ : List Ent} {I : List Ent → Prop} (h : (a ρ).w (nxD fun ρ1 => (b ρ1).w (nxD I))) : (mThen a b ρ).w (nxD I) := by
  rw [w_thenS]
  exact h
theorem body_cut {a1 a2 a3 a4 a5 a6 a7 a8 a9 a10 b : List Ent → O} {ns : List Int} {st : Int}
    (h1 : ∀ {r3 r4 r5 r6 r7 r8 r9 s0 s1 s2 s3 : Ent} {I : List Ent → Prop}, (∀ t, IsTape t → I [.own (.scr (ns.map T.int)), .own (.lst false (oddT.map T.str)), .own (.int st), .own t, r4, r5, r6, r7, r8, r9, s0, s1, s2, s3]) → (a1 [.own (.scr (ns.map T.int)), .own (.lst false (oddT.map T.str)), .own (.int st), r3, r4, r5, r6, r7, r8, r9, s0, s1, s2, s3]).w (nxD I))
    (h2 : ∀ {t : T}, IsTape t → ∀ {r4 r5 r6 r7 r8 r9 s0 s1 s2 s3 : Ent} {I : List Ent → Prop}, (∀ t r4 r5 r6 r7, IsTape t → I [.own (.scr (ns.map T.int)), .own (.lst false (oddT.map T.str)), .own (.int st), .own t, r4, r5, r6, r7, r8, r9, s0, s1, s2, s3]) → (a2 [.own (.scr (ns.map T.int)), .own (.lst false (oddT.map T.str)), .own (.int st), .own t, r4, r5, r6, r7, r8, r9, s0, s1, s2, s3]).w (nxD I))
    (h3 : ∀ {t : T}, IsTape t → ∀ {r4 r5 r6 r7 r8 r9 s0 s1 s2 s3 : Ent} {I : List Ent → Prop}, (∀ u t, u ∈ VL → IsTape t → I [.own (.scr (ns.map T.int)), .own (.lst false (oddT.map T.str)), .own (.int st), .own t, r4, r5, r6, r7, .own u, r9, s0, s1, s2, s3]) → (a3 [.own (.scr (ns.map T.int)), .own (.lst false (oddT.map T.str)), .own (.int st), .own t, r4, r5, r6, r7, r8, r9, s0, s1, s2, s3]).w (nxD I))
    (h4 : ∀ {t u : T}, IsTape t → ∀ {r4 r5 r6 r7 r9 s0 s1 s2 s3 : Ent} {I : List Ent → Prop}, (∀ ws t, Ps 1000 ws → IsTape t → I [.own (.scr (ns.map T.int)), .own (.lst false (oddT.map T.str)), .own (.int st), .own t, r4, r5, r6, r7, .own u, .own (.lst true (ws.map T.str)), s0, s1, s2, s3]) → (mThen a4 a5 [.own (.scr (ns.map T.int)), .own (.lst false (oddT.map T.str)), .own (.int st), .own t, r4, r5, r6, r7, .own u, r9, s0, s1, s2, s3]).w (nxD I))
    (h6 : ∀ {t u : T} {ws : List Str}, Cs u → ∀ {r4 r5 r6 r7 s0 s1 s2 s3 : Ent} {I : List Ent → Prop}, (∀ cs, Cl 7 cs → I [.own (.scr (ns.map T.int)), .own (.lst false (oddT.map T.str)), .own (.int st), .own t, r4, r5, r6, r7, .own u, .own (.lst true (ws.map T.str)), .own (.lst true cs), s1, s2, s3]) → (a6 [.own (.scr (ns.map T.int)), .own (.lst false (oddT.map T.str)), .own (.int st), .own t, r4, r5, r6, r7, .own u, .own (.lst true (ws.map T.str)), s0, s1, s2, s3]).w (nxD I))
    (h7 : ∀ {t u : T} {ws : List Str}, Ps 1000 ws → ∀ {cs : List T}, Cl 7 cs → ∀ {r4 r5 r6 r7 s1 s2 s3 : Ent} {I : List Ent → Prop}, (∀ cs, Cl 9 cs → I [.own (.scr (ns.map T.int)), .own (.lst false (oddT.map T.str)), .own (.int st), .own t, r4, r5, r6, r7, .own u, .own (.lst true (ws.map T.str)), .own (.lst true cs), s1, s2, s3]) → (a7 [.own (.scr (ns.map T.int)), .own (.lst false (oddT.map T.str)), .own (.int st), .own t, r4, r5, r6, r7, .own u, .own (.lst true (ws.map T.str)), .own (.lst true cs), s1, s2, s3]).w (nxD I))
    (h8 : ∀ {t u : T} {ws : List Str} {cs : List T} {r4 r5 r6 r7 s1 s2 s3 : Ent} {I : List Ent → Prop}, I [.own (.scr (ns.map T.int)), .own (.lst false (oddT.map T.str)), .own (.int st), .own t, r4, r5, r6, r7, .own u, .own (.lst true (ws.map T.str)), .own (.lst true cs), .own (.str sgn), s2, s3] → (a8 [.own (.scr (ns.map T.int)), .own (.lst false (oddT.map T.str)), .own (.int st), .own t, r4, r5, r6, r7, .own u, .own (.lst true (ws.map T.str)), .own (.lst true cs), s1, s2, s3]).w (nxD I))
    (h9 : ∀ {t u : T} {ws : List Str} {cs : List T}, IsTape t → Cl 9 cs → ∀ {r4 r5 r6 r7 s2 s3 : Ent} {I : List Ent → Prop}, (∀ cs t, Cl 10 cs → IsTape t → I [.own (.scr (ns.map T.int)), .own (.lst false (oddT.map T.str)), .own (.int st), .own t, r4, r5, r6, r7, .own u, .own (.lst true (ws.map T.str)), .own (.lst true cs), .own (.str sgn), s2, s3]) → (a9 [.own (.scr (ns.map T.int)), .own (.lst false (oddT.map T.str)), .own (.int st), .own t, r4, r5, r6, r7, .own u, .own (.lst true (ws.map T.str)), .own (.lst true cs), .own (.str sgn), s2, s3]).w (nxD I))
    (h10 : ∀ {t u : T} {ws : List Str} {cs : List T}, Cl 10 cs → ∀ {r4 r5 r6 r7 s2 s3 : Ent} {I : List Ent → Prop}, (∀ cs, Cl 14 cs → I [.own (.scr (ns.map T.int)), .own (.lst false (oddT.map T.str)), .own (.int st), .own t, r4, r5, r6, r7, .own u, .own (.lst true (ws.map T.str)), .own (.lst true cs), .own (.str sgn), s2, s3]) → (a10 [.own (.scr (ns.map T.int)), .own (.lst false (oddT.map T.str)), .own (.int st), .own t, r4, r5, r6, r7, .own u, .own (.lst true (ws.map T.str)), .own (.lst true cs), .own (.str sgn), s2, s3]).w (nxD I))
    (h11 : ∀ {t u : T} {ws : List Str} {cs : List T}, Cl 14 cs → ∀ {r4 r5 r6 r7 s2 s3 : Ent} {I : List Ent → Prop}, (∀ s2 s3, I [.own (.scr (ns.map T.int)), .own (.lst false (oddT.map T.str)), .own (.int st), .own t, r4, r5, r6, r7, .own u, .own (.lst true (ws.map T.str)), .own (.lst true cs), .own (.str sgn), s2, s3]) → (b [.own (.scr (ns.map T.int)), .own (.lst false (oddT.map T.str)), .own (.int st), .own t, r4, r5, r6, r7, .own u, .own (.lst true (ws.map T.str)), .own (.lst true cs), .own (.str sgn), s2, s3]).w (nxD I))
    {r3 r4 r5 r6 r7 r8 r9 s0 s1 s2 s3 : Ent} {I : List Ent → Prop} (k : ∀ r3 r4 r5 r6 r7 r8 r9 s0 s1 s2 s3, I [.own (.scr (ns.map T.int)), .own (.lst false (oddT.map T.str)), .own (.int st), r3, r4, r5, r6, r7, r8, r9, s0, s1, s2, s3]) :
    (mThen a1 (mThen a2 (mThen a3 (mThen a4 (mThen a5 (mThen a6 (mThen a7 (mThen a8 (mThen a9 (mThen a10 b))))))))) [.own (.scr (ns.map T.int)), .own (.lst false (oddT.map T.str)), .own (.int st), r3, r4, r5, r6, r7, r8, r9, s0, s1, s2, s3]).w (nxD I) := by
  refine seq_dir (h1 fun t ht => ?_)
  refine seq_dir (h2 ht fun t r4 r5 r6 r7 ht => ?_)
  refine seq_dir (h3 ht fun u t hu ht => ?_)
  show (mThen a4 (mThen a5 _) _).w _
  rw [then_assoc]
  refine seq_dir (h4 ht fun ws t hw ht => ?_)
  refine seq_dir (h6 (VL_cs hu) fun cs hc => ?_)
  refine seq_dir (h7 hw hc fun cs hc => ?_)
  refine seq_dir (h8 ?_)
  refine seq_dir (h9 ht hc fun cs t hc ht => ?_)
  refine seq_dir (h10 hc fun cs hc => ?_)
  exact h11 hc fun _ _ => k _ _ _ _ _ _ _ _ _ _ _
theorem tape_p {ns : List Int} (hl : ns.length < 1000) (hb : ∀ z ∈ ns, Builtin.Int.intBits z ≤ 1048576) {st : Int} (hst : 0 ≤ st ∧ st < 3) {x1 x3 x4 x5 x6 x7 x8 x9 y0 y1 y2 y3 : Ent} {I : List Ent → Prop} (k : ∀ t, IsTape t → I [.own (.scr (ns.map T.int)), x1, .own (.int st), .own t, x4, x5, x6, x7, x8, x9, y0, y1, y2, y3]) :
    (p1 [.own (.scr (ns.map T.int)), x1, .own (.int st), x3, x4, x5, x6, x7, x8, x9, y0, y1, y2, y3]).w (nxD I) := by
  have h := tape_s hl hb hst (x3 := x3) k
  unfold p1
  assumption
theorem any_p {t : T} (ht : IsTape t) {x0 x1 x2 x4 x5 x6 x7 x8 x9 y0 y1 y2 y3 : Ent} {I : List Ent → Prop} (k : ∀ u t, u ∈ VL → IsTape t → I [x0, x1, x2, .own t, x4, x5, x6, x7, .own u, x9, y0, y1, y2, y3]) :
    (p3 [x0, x1, x2, .own t, x4, x5, x6, x7, x8, x9, y0, y1, y2, y3]).w (nxD I) := by
  have h := any_s ht (x8 := x8) k
  unfold p3
  assumption
theorem long_p {t : T} (ht : IsTape t) {x0 x1 x2 x4 x5 x6 x7 x8 x9 y0 y1 y2 y3 : Ent} {I : List Ent → Prop} (k : ∀ ws t', Ps 1000 ws → IsTape t' → I [x0, x1, x2, .own t', x4, x5, x6, x7, x8, .own (.lst true (ws.map T.str)), y0, y1, y2, y3]) :
    (mThen p4 p5 [x0, x1, x2, .own t, x4, x5, x6, x7, x8, x9, y0, y1, y2, y3]).w (nxD I) := by
  have h := long_t ht (x9 := x9) k
  unfold p4 p5
  assumption
theorem case1_p {u : T} (hu : Cs u) {x0 x1 x2 x3 x4 x5 x6 x7 x9 y0 y1 y2 y3 : Ent} {I : List Ent → Prop} (k : ∀ cs, Cl 7 cs → I [x0, x1, x2, x3, x4, x5, x6, x7, .own u, x9, .own (.lst true cs), y1, y2, y3]) :
    (p6 [x0, x1, x2, x3, x4, x5, x6, x7, .own u, x9, y0, y1, y2, y3]).w (nxD I) := by
  have h := case1_t hu (y0 := y0) k
  unfold p6
  assumption
theorem case2_p {ws : List Str} (hw : Ps 1000 ws) {cs : List T} (hc : Cl 7 cs) {x0 x1 x2 x3 x4 x5 x6 x7 x8 y1 y2 y3 : Ent} {I : List Ent → Prop} (k : ∀ cs, Cl 9 cs → I [x0, x1, x2, x3, x4, x5, x6, x7, x8, .own (.lst true (ws.map T.str)), .own (.lst true cs), y1, y2, y3]) :
    (p7 [x0, x1, x2, x3, x4, x5, x6, x7, x8, .own (.lst true (ws.map T.str)), .own (.lst true cs), y1, y2, y3]).w (nxD I) := by
  have h := case2_t hw hc k
  unfold p7
  assumption
theorem sgn_p {x0 x1 x2 x3 x4 x5 x6 x7 x8 x9 y0 y1 y2 y3 : Ent} {I : List Ent → Prop} (k : I [x0, x1, x2, x3, x4, x5, x6, x7, x8, x9, y0, .own (.str sgn), y2, y3]) :
    (p8 [x0, x1, x2, x3, x4, x5, x6, x7, x8, x9, y0, y1, y2, y3]).w (nxD I) := by
  have h := sgn_s (y1 := y1) k
  unfold p8
  unfold sgn at h
  assumption
theorem case3_p {t : T} (ht : IsTape t) {cs : List T} (hc : Cl 9 cs) {x0 x1 x2 x4 x5 x6 x7 x8 x9 y2 y3 : Ent} {I : List Ent → Prop} (k : ∀ cs t', Cl 10 cs → IsTape t' → I [x0, x1, x2, .own t', x4, x5, x6, x7, x8, x9, .own (.lst true cs), .own (.str sgn), y2, y3]) :
    (p9 [x0, x1, x2, .own t, x4, x5, x6, x7, x8, x9, .own (.lst true cs), .own (.str sgn), y2, y3]).w (nxD I) := by
  have h := case3_t ht hc k
  unfold p9
  assumption
theorem case4_p {n : Int} {z1 : Str} (m1 : pMulS [.str "9", .int n] = some (.own (.str z1))) (t1 : Tx 5000 z1) {cs : List T} (hc : Cl 10 cs) {x0 x1 x2 x3 x4 x5 x6 x7 x8 x9 y1 y2 y3 : Ent} {I : List Ent → Prop} (k : ∀ cs, Cl 14 cs → I [x0, x1, x2, x3, x4, x5, x6, x7, x8, x9, .own (.lst true cs), y1, y2, y3]) :
    (p10 n [x0, x1, x2, x3, x4, x5, x6, x7, x8, x9, .own (.lst true cs), y1, y2, y3]).w (nxD I) := by
  have h := case4_t m1 t1 hc k
  unfold p10
  assumption
theorem cases_p {cs : List T} (hc : Cl 14 cs) {x0 x1 x2 x3 x4 x5 x6 x7 x8 x9 y1 y2 y3 : Ent} {I : List Ent → Prop} (k : ∀ y2 y3, I [x0, x1, x2, x3, x4, x5, x6, x7, x8, x9, .own (.lst true cs), y1, y2, y3]) :
    (p11 [x0, x1, x2, x3, x4, x5, x6, x7, x8, x9, .own (.lst true cs), y1, y2, y3]).w (nxD I) := by
  have h := cases_t hc (y2 := y2) (y3 := y3) k
  unfold p11
  assumption
theorem body_t {n : Int} {z1 : Str} (m1 : pMulS [.str "9", .int n] = some (.own (.str z1))) (t1 : Tx 5000 z1) {ns : List Int} (hl : ns.length < 1000) (hb : ∀ z ∈ ns, Builtin.Int.intBits z ≤ 1048576) {st : Int} (hst : 0 ≤ st ∧ st < 3) {r3 r4 r5 r6 r7 r8 r9 s0 s1 s2 s3 : Ent} {I : List Ent → Prop}
    (k : ∀ r3 r4 r5 r6 r7 r8 r9 s0 s1 s2 s3, I [.own (.scr (ns.map T.int)), .own (.lst false (oddT.map T.str)), .own (.int st), r3, r4, r5, r6, r7, r8, r9, s0, s1, s2, s3]) :
    (body90 n [.own (.scr (ns.map T.int)), .own (.lst false (oddT.map T.str)), .own (.int st), r3, r4, r5, r6, r7, r8, r9, s0, s1, s2, s3]).w (nxD I) := by
  have h := body_cut (ns := ns) (st := st) (tape_p hl hb hst) (fun ht => turns_t ht) (fun ht => any_p ht) (fun ht => long_p ht) (fun hu => case1_p hu) (fun hw => fun hc => case2_p hw hc) sgn_p (fun ht hc => case3_p ht hc) (fun hc => case4_p m1 t1 hc) (fun hc => cases_p hc) (r3 := r3) (r4 := r4) (r5 := r5) (r6 := r6) (r7 := r7) (r8 := r8) (r9 := r9) (s0 := s0) (s1 := s1) (s2 := s2) (s3 := s3) k
  unfold body90
  assumption
theorem law_cut {body : List Ent → O} {ns : List Int} (hl : ns.length < 1000)
    (hbody : ∀ {st : Int}, (0 ≤ st ∧ st < 3) → ∀ {r3 r4 r5 r6 r7 r8 r9 s0 s1 s2 s3 : Ent} {I : List Ent → Prop}, (∀ r3 r4 r5 r6 r7 r8 r9 s0 s1 s2 s3, I [.own (.scr (ns.map T.int)), .own (.lst false (oddT.map T.str)), .own (.int st), r3, r4, r5, r6, r7, r8, r9, s0, s1, s2, s3]) → (body [.own (.scr (ns.map T.int)), .own (.lst false (oddT.map T.str)), .own (.int st), r3, r4, r5, r6, r7, r8, r9, s0, s1, s2, s3]).w (nxD I)) :
    (mDef [true] 13 (mThen (mAsg (mC (enc (.list [(.str ""), (.str "1"), (.str "0"), (.str "01"), (.str "-0"), (.str "-5"), (.str "+1"), (.str "1000000"), (.str "1000001"), (.str "x"), (.str "hold"), (.str "lock"), (.str "begin")]))) (gmName 1))
  (mThen (mAsg (mOp pAdd true (mName 1) (mC (enc (.list [(.str "60"), (.str "61"), (.str "abcdefg")])))) (gmName 1))
  (mThen (mFor (mRange1 (mPrim pMax (mCons true (mC (.int (1))) (mCons true (mPrim pMin (mCons true (mC (.int (3))) (mCons true (mPrim pLen (mCons true (mName 0) mNil)) mNil))) mNil)))) (gmName 2) body)
  (mRet (mC (.bl true)))))) [.own (.scr (ns.map T.int))]).w (fun e _ => e = .own (.bl true)) noE := by
  simp! only [gmName]
  refine seq_cut2 (I := fun ρ => ρ = [.own (.scr (ns.map T.int)), .own (.lst false (oddT.map T.str)), .no, .no, .no, .no, .no, .no, .no, .no, .no, .no, .no, .no]) ?_ ?_
  · have e1 : (enc (.list [(.str ""), (.str "1"), (.str "0"), (.str "01"), (.str "-0"), (.str "-5"), (.str "+1"), (.str "1000000"), (.str "1000001"), (.str "x"), (.str "hold"), (.str "lock"), (.str "begin")])).frz = .lst false ((["", "1", "0", "01", "-0", "-5", "+1", "1000000", "1000001", "x", "hold", "lock", "begin"] : List Str).map T.str) := by kernel_rfl
    have e2 : pAdd [.lst false ((["", "1", "0", "01", "-0", "-5", "+1", "1000000", "1000001", "x", "hold", "lock", "begin"] : List Str).map T.str), enc (.list [(.str "60"), (.str "61"), (.str "abcdefg")])] = some (.own (.lst true (oddT.map T.str))) := by kernel_rfl
    have e3 : (T.lst true (oddT.map T.str)).frz = .lst false (oddT.map T.str) := by kernel_rfl
    simp only [w_def, w_thenS, w_if, w_test, w_bool, w_op, w_prim, w_cons, w_nil, w_name, w_c, w_pure, w_br, w_seqT, w_lst, w_chain, w_part, w_pureO, w_slice, w_drop, w_ret, w_retN, w_set, w_move, w_raise, w_parN, w_par, w_plName, w_plFld, w_setF, w_setI, w_ddel, w_safe, w_callW, w_kNo, w_kLw, w_callR, w_methR, w_methW, w_methWK, w_nx, w_bk, w_ct, w_rt, w_ok, w_err, w_oerr, gmName, List.length_cons, List.length_nil, List.replicate, List.cons_append, List.nil_append, List.getElem?_cons_zero, List.getElem?_cons_succ, List.set_cons_zero, List.set_cons_succ, rdW_own, rdW_vw, mvW_own, Bool.true_or, Bool.false_or, Bool.or_true, true_and, and_true, t_own, t_vw, h_own, keep_own, fz_own, oW_some, oW_ite, bW_some, tW_some, tW_ite, T.bool, Option.map_some, finP, setN, Nat.zero_lt_succ, Nat.reduceLT, Nat.reduceAdd, Nat.reduceLeDiff, getK_hd, id_eq, prep, back, sfW, Bool.and_true, Bool.true_and, decide_true, decide_eq_true_eq, if_true, if_false, ite_true, ite_false, Bool.false_eq_true, eq_self, w_asgN, e1, e2, e3, Ent.fz]
  rintro ρ rfl
  refine seq_cut (I := fun ρ => ∃ r2 r3 r4 r5 r6 r7 r8 r9 s0 s1 s2 s3, ρ = [.own (.scr (ns.map T.int)), .own (.lst false (oddT.map T.str)), r2, r3, r4, r5, r6, r7, r8, r9, s0, s1, s2, s3]) ?_ ?_
  · rw [w_for]
    simp! only [w_range1, pLen, pMin, pMax, oB, oI]
    refine ⟨okR_of (by split <;> split <;> omega), ?_⟩
    refine forM_n (fun ts ρ => (∀ t ∈ ts, ∃ i : Int, t = .int i ∧ 0 ≤ i ∧ i < 3) ∧ ∃ r2 r3 r4 r5 r6 r7 r8 r9 s0 s1 s2 s3, ρ = [.own (.scr (ns.map T.int)), .own (.lst false (oddT.map T.str)), r2, r3, r4, r5, r6, r7, r8, r9, s0, s1, s2, s3]) (fun ρ h => h.2) (fun x ts ρ h => ?_) _ _ ⟨fun t q => ?_, _, _, _, _, _, _, _, _, _, _, _, _, rfl⟩
    · obtain ⟨h1, r2, r3, r4, r5, r6, r7, r8, r9, s0, s1, s2, s3, rfl⟩ := h
      obtain ⟨st, rfl, hst⟩ := h1 x List.mem_cons_self
      have h1' := fun u q => h1 u (List.mem_cons_of_mem _ q)
      simp! only [T.frz]
      refine O.w_nx (I := fun ρ => ∃ r2 r3 r4 r5 r6 r7 r8 r9 s0 s1 s2 s3, ρ = [.own (.scr (ns.map T.int)), .own (.lst false (oddT.map T.str)), r2, r3, r4, r5, r6, r7, r8, r9, s0, s1, s2, s3]) (hbody hst fun r3 r4 r5 r6 r7 r8 r9 s0 s1 s2 s3 => ⟨_, r3, r4, r5, r6, r7, r8, r9, s0, s1, s2, s3, rfl⟩) ?_
      exact fun ρ h => ⟨h1', h⟩
    · obtain ⟨i, rfl, h1, h2⟩ := mem_range q
      refine ⟨i, rfl, h1, ?_⟩
      split at h2 <;> split at h2 <;> omega
  · rintro ρ ⟨r2, r3, r4, r5, r6, r7, r8, r9, s0, s1, s2, s3, rfl⟩
    simp_all! only [gmName]
theorem law_t {ns : List Int} (hl : ns.length < 1000) (hb : ∀ z ∈ ns, Builtin.Int.intBits z ≤ 1048576) : (F_law [.own (.scr (ns.map T.int))]).w (fun e _ => e = .own (.bl true)) noE := by
  have e : F_law = mDef [true] 13 (mThen (mAsg (mC (enc (.list [(.str ""), (.str "1"), (.str "0"), (.str "01"), (.str "-0"), (.str "-5"), (.str "+1"), (.str "1000000"), (.str "1000001"), (.str "x"), (.str "hold"), (.str "lock"), (.str "begin")]))) (gmName 1))
  (mThen (mAsg (mOp pAdd true (mName 1) (mC (enc (.list [(.str "60"), (.str "61"), (.str "abcdefg")])))) (gmName 1))
  (mThen (mFor (mRange1 (mPrim pMax (mCons true (mC (.int (1))) (mCons true (mPrim pMin (mCons true (mC (.int (3))) (mCons true (mPrim pLen (mCons true (mName 0) mNil)) mNil))) mNil)))) (gmName 2) (body90 5000))
  (mRet (mC (.bl true)))))) := by unfold F_law; rfl
  rw [e]
  have m1 : pMulS [.str "9", .int 5000] = some (.own (.str (Txt.mul "9" 5000))) := by kernel_rfl
  have t1 : Tx 5000 (Txt.mul "9" 5000) := txB_ok (by decide +kernel)
  generalize Txt.mul "9" 5000 = z1 at *
  have h := law_cut (body := body90 5000) hl fun hst => body_t m1 t1 hl hb hst
  exact h
end Rm
namespace Rm
open PySem PySem.Spec L2
open PyProof.Rows hiding St
def dd_number_in : He.DefD := ⟨("number_in", none), "number_in", "number_in", defArgs s_number_in, defBody s_number_in, defScope s_number_in, [], []⟩
def dd_value_in : He.DefD := ⟨("value_in", none), "value_in", "value_in", defArgs s_value_in, defBody s_value_in, defScope s_value_in, [], []⟩
def dd_is_integer : He.DefD := ⟨("is_integer", none), "is_integer", "is_integer", defArgs s_is_integer, defBody s_is_integer, defScope s_is_integer, [], []⟩
def dd_is_from_to : He.DefD := ⟨("is_from_to", none), "is_from_to", "is_from_to", defArgs s_is_from_to, defBody s_is_from_to, defScope s_is_from_to, [], []⟩
def dd_is_name : He.DefD := ⟨("is_name", none), "is_name", "is_name", defArgs s_is_name, defBody s_is_name, defScope s_is_name, [], []⟩
def dd_is_mode : He.DefD := ⟨("is_mode", none), "is_mode", "is_mode", defArgs s_is_mode, defBody s_is_mode, defScope s_is_mode, [], []⟩
def dd_is_change_mode : He.DefD := ⟨("is_change_mode", none), "is_change_mode", "is_change_mode", defArgs s_is_change_mode, defBody s_is_change_mode, defScope s_is_change_mode, [], []⟩
def dd_is_value : He.DefD := ⟨("is_value", none), "is_value", "is_value", defArgs s_is_value, defBody s_is_value, defScope s_is_value, [], []⟩
def dd_is_request : He.DefD := ⟨("is_request", none), "is_request", "is_request", defArgs s_is_request, defBody s_is_request, defScope s_is_request, [], []⟩
def dd_is_operation : He.DefD := ⟨("is_operation", none), "is_operation", "is_operation", defArgs s_is_operation, defBody s_is_operation, defScope s_is_operation, [], []⟩
def dd_operation_in : He.DefD := ⟨("operation_in", none), "operation_in", "operation_in", defArgs s_operation_in, defBody s_operation_in, defScope s_operation_in, [], []⟩
def dd_read_history : He.DefD := ⟨("read_history", none), "read_history", "read_history", defArgs s_read_history, defBody s_read_history, defScope s_read_history, [], []⟩
def dd_law_tape : He.DefD := ⟨("_law_tape", none), "_law_tape", "_law_tape", defArgs s_law_tape, defBody s_law_tape, defScope s_law_tape, [], []⟩
def dd_law_pick : He.DefD := ⟨("_law_pick", none), "_law_pick", "_law_pick", defArgs s_law_pick, defBody s_law_pick, defScope s_law_pick, [], []⟩
def dd_law_one_of : He.DefD := ⟨("_law_one_of", none), "_law_one_of", "_law_one_of", defArgs s_law_one_of, defBody s_law_one_of, defScope s_law_one_of, [], []⟩
def dd_law_any : He.DefD := ⟨("_law_any", none), "_law_any", "_law_any", defArgs s_law_any, defBody s_law_any, defScope s_law_any, [], []⟩
def dd_law_deeds_text : He.DefD := ⟨("_law_deeds_text", none), "_law_deeds_text", "_law_deeds_text", defArgs s_law_deeds_text, defBody s_law_deeds_text, defScope s_law_deeds_text, [], []⟩
def dd_law_bent : He.DefD := ⟨("_law_bent", none), "_law_bent", "_law_bent", defArgs s_law_bent, defBody s_law_bent, defScope s_law_bent, [], []⟩
def dd_law_nym : He.DefD := ⟨("_law_nym", none), "_law_nym", "_law_nym", defArgs s_law_nym, defBody s_law_nym, defScope s_law_nym, [], []⟩
def dd_law_some_deed : He.DefD := ⟨("_law_some_deed", none), "_law_some_deed", "_law_some_deed", defArgs s_law_some_deed, defBody s_law_some_deed, defScope s_law_some_deed, [], []⟩
def dd_law_found : He.DefD := ⟨("_law_found", none), "_law_found", "_law_found", defArgs s_law_found, defBody s_law_found, defScope s_law_found, [], []⟩
def dd_law_number : He.DefD := ⟨("_law_number", none), "_law_number", "_law_number", defArgs s_law_number, defBody s_law_number, defScope s_law_number, [], []⟩
def dd_law_value : He.DefD := ⟨("_law_value", none), "_law_value", "_law_value", defArgs s_law_value, defBody s_law_value, defScope s_law_value, [], []⟩
def dd_law_is_name : He.DefD := ⟨("_law_is_name", none), "_law_is_name", "_law_is_name", defArgs s_law_is_name, defBody s_law_is_name, defScope s_law_is_name, [], []⟩
def dd_law_deed_of : He.DefD := ⟨("_law_deed_of", none), "_law_deed_of", "_law_deed_of", defArgs s_law_deed_of, defBody s_law_deed_of, defScope s_law_deed_of, [], []⟩
def dd_law_history_of : He.DefD := ⟨("_law_history_of", none), "_law_history_of", "_law_history_of", defArgs s_law_history_of, defBody s_law_history_of, defScope s_law_history_of, [], []⟩
def dd_law : He.DefD := ⟨("law", none), "law", "law", defArgs s_law, defBody s_law, defScope s_law, [], []⟩
abbrev PP : Program := (PySem.Challenge.rw_rowmarks_k90_texts_that_are_no_histories).prog
abbrev s_BadText___init__ : Stmt := inClass (topS 2) 0
def ed_BadText : ErrD := ⟨"BadText", "line", "line", "BadText.__init__", s_BadText___init__⟩
theorem edef_BadText {w : World} {K : PySem.W.Frag} {mg : Str → Option Value} {base h : Heap} (X : K.In h) (G : h.Ns mainGlobals mg) (hk : ed_BadText.ok PP K = true) (ho : ed_BadText.obs K = ed_BadText.val) : EDef PP w K mg base "BadText" (He.ga K "BadText") "line" := by
  obtain ⟨cc, c, fd, T, lk, ⟨kV, doc, pm, an, ct, rfl⟩, xf, no, hi, ht, hg⟩ := ErrD.told hk ho
  exact ⟨⟨_, _, "line", PySem.W.mg_of X G hg, T.o, hi, ht, .all (fun us hl => match us, hl with | [_, _], _ => rfl),
    ok_err T lk (NdefX.nscope_by (show NdefX.nscB _ _ _ (defScope ed_BadText.st) = true by decide +kernel)) (by rfl) rfl rfl rfl no (by decide +kernel) rfl rfl (fun _ => rfl) (fun _ => rfl) (fun _ => rfl) (fun _ => rfl)⟩, xf, no⟩
def efD (s : Str) : Str := if s = "BadText" then "line" else Str.empty
theorem efD_BadText : efD "BadText" = "line" := by decide
abbrev cD (K : PySem.W.Frag) : VC := ⟨⟨fun s => He.ga K s, fun _ => none⟩, efD⟩
def esD : List ErrD := [ed_BadText]
def fnD : List He.DefD := [dd_number_in, dd_value_in, dd_is_integer, dd_is_from_to, dd_is_name, dd_is_mode, dd_is_change_mode, dd_is_value, dd_is_request, dd_is_operation, dd_operation_in, dd_read_history, dd_law_tape, dd_law_pick, dd_law_one_of, dd_law_any, dd_law_deeds_text, dd_law_bent, dd_law_nym, dd_law_some_deed, dd_law_found, dd_law_number, dd_law_value, dd_law_is_name, dd_law_deed_of, dd_law_history_of, dd_law]
def faD : List He.Fa := [.free "len", .free "range", .free "int", .free "isinstance", .free "repr", .free "list", .free "tuple", .free "dict", .free "set", .free "str", .free "bool", .free "max", .free "min", .free "sorted", .free "enumerate", .free "zip", .free "abs", .free "all", .free "any", .free "super", .free "ValueError", .free "TypeError", .glo "law", .int "MOST_DIGITS" (30), .str "DIGITS" "0123456789", .int "MOST_LETTERS" (6), .str "LETTERS" "abcdefghijklmnopqrstuvwxyz", .glo "WORDS", .int "TOO_GREAT" (1000000000000000000000000000000), .glo "ALONE", .int "MOST_NUMBER" (1000000), .glo "NUMBERED", .int "MOST_OPERATIONS" (60), .glo "number_in", .glo "value_in", .glo "is_integer", .glo "is_from_to", .glo "is_name", .glo "is_mode", .glo "is_change_mode", .glo "is_value", .glo "is_request", .glo "is_operation", .glo "operation_in", .glo "read_history", .glo "_law_tape", .glo "_law_pick", .glo "_law_one_of", .glo "_law_any", .glo "_law_deeds_text", .glo "_law_bent", .glo "_law_nym", .glo "_law_some_deed", .glo "_law_found", .glo "_law_number", .glo "_law_value", .glo "_law_is_name", .glo "_law_deed_of", .glo "_law_history_of", .exm "BadText" "BadText" true]
def exD (K : PySem.W.Frag) : Bool := He.tupB K "WORDS" [.str "hold", .str "keep", .str "change", .str "replace"] && (He.tupB K "ALONE" [.str "begin", .str "crash", .str "clean"] && (He.tupB K "NUMBERED" [.str "save", .str "release", .str "back", .str "commit", .str "abort", .str "prepare"] && (noLst K)))
def loose0 : List PySem.Str := ["MarkError", "BadText", "WORDS", "is_mode", "is_change_mode", "LETTERS", "MOST_LETTERS", "TOO_GREAT", "is_integer", "is_from_to", "is_name", "is_value", "MOST_OPERATIONS", "MOST_NUMBER", "ALONE", "NUMBERED", "is_request", "is_operation", "DIGITS", "MOST_DIGITS", "number_in", "value_in", "operation_in", "read_history", "_law_tape", "_law_pick", "_law_one_of", "_law_any", "_law_is_name", "_law_number"]
def loose1 : List PySem.Str := ["_law_value", "_law_deed_of", "_law_history_of", "_law_nym", "_law_some_deed", "_law_deeds_text", "_law_bent", "_law_found"]
def looseD : List PySem.Str := loose0 ++ loose1
abbrev rowD : PySem.W.OpenRow := PySem.W.OpenLaw.row PySem.Challenge.rw_rowmarks_k90_texts_that_are_no_histories
theorem runD (w : World) : HandSHeadRun.RunEq rowD (PySem.W.view rowD.prog [44]) (hookE PP 4 faD fnD esD exD) (fun s => obsE PP 4 faD fnD esD exD (HandSHeadRun.getT s)) 8000 looseD w := by
  intro os
  kernel_rfl
section
variable {w : World} {K : PySem.W.Frag} {mg : Str → Option Value}
theorem factsD {h : Heap} {f : Addr} (X : K.In h) (G : h.Ns mainGlobals mg) (hf : mg ("law" : Str) = some (.ref f)) (c : SaysE PP faD fnD esD exD K) :
    ∃ fd : FuncData, (∀ (s : Shared) (v : Value), BindsTo s fd ⟨[v], []⟩ [("_law_script", v)]) ∧ ∀ base : Heap, FnG PP w K mg base (L2.CX PP w) 8 f fd ["_law_script"] (spV0 (cD K) 1 F_law) := by
  have hf0 := hf
  obtain ⟨fd_number_in, U_number_in⟩ := c.d.def_ 0 (d := dd_number_in) rfl
  obtain ⟨fd_value_in, U_value_in⟩ := c.d.def_ 1 (d := dd_value_in) rfl
  obtain ⟨fd_is_integer, U_is_integer⟩ := c.d.def_ 2 (d := dd_is_integer) rfl
  obtain ⟨fd_is_from_to, U_is_from_to⟩ := c.d.def_ 3 (d := dd_is_from_to) rfl
  obtain ⟨fd_is_name, U_is_name⟩ := c.d.def_ 4 (d := dd_is_name) rfl
  obtain ⟨fd_is_mode, U_is_mode⟩ := c.d.def_ 5 (d := dd_is_mode) rfl
  obtain ⟨fd_is_change_mode, U_is_change_mode⟩ := c.d.def_ 6 (d := dd_is_change_mode) rfl
  obtain ⟨fd_is_value, U_is_value⟩ := c.d.def_ 7 (d := dd_is_value) rfl
  obtain ⟨fd_is_request, U_is_request⟩ := c.d.def_ 8 (d := dd_is_request) rfl
  obtain ⟨fd_is_operation, U_is_operation⟩ := c.d.def_ 9 (d := dd_is_operation) rfl
  obtain ⟨fd_operation_in, U_operation_in⟩ := c.d.def_ 10 (d := dd_operation_in) rfl
  obtain ⟨fd_read_history, U_read_history⟩ := c.d.def_ 11 (d := dd_read_history) rfl
  obtain ⟨fd_law_tape, U_law_tape⟩ := c.d.def_ 12 (d := dd_law_tape) rfl
  obtain ⟨fd_law_pick, U_law_pick⟩ := c.d.def_ 13 (d := dd_law_pick) rfl
  obtain ⟨fd_law_one_of, U_law_one_of⟩ := c.d.def_ 14 (d := dd_law_one_of) rfl
  obtain ⟨fd_law_any, U_law_any⟩ := c.d.def_ 15 (d := dd_law_any) rfl
  obtain ⟨fd_law_deeds_text, U_law_deeds_text⟩ := c.d.def_ 16 (d := dd_law_deeds_text) rfl
  obtain ⟨fd_law_bent, U_law_bent⟩ := c.d.def_ 17 (d := dd_law_bent) rfl
  obtain ⟨fd_law_nym, U_law_nym⟩ := c.d.def_ 18 (d := dd_law_nym) rfl
  obtain ⟨fd_law_some_deed, U_law_some_deed⟩ := c.d.def_ 19 (d := dd_law_some_deed) rfl
  obtain ⟨fd_law_found, U_law_found⟩ := c.d.def_ 20 (d := dd_law_found) rfl
  obtain ⟨fd_law_number, U_law_number⟩ := c.d.def_ 21 (d := dd_law_number) rfl
  obtain ⟨fd_law_value, U_law_value⟩ := c.d.def_ 22 (d := dd_law_value) rfl
  obtain ⟨fd_law_is_name, U_law_is_name⟩ := c.d.def_ 23 (d := dd_law_is_name) rfl
  obtain ⟨fd_law_deed_of, U_law_deed_of⟩ := c.d.def_ 24 (d := dd_law_deed_of) rfl
  obtain ⟨fd_law_history_of, U_law_history_of⟩ := c.d.def_ 25 (d := dd_law_history_of) rfl
  obtain ⟨fd_law, U_law⟩ := c.d.def_ 26 (d := dd_law) rfl
  have e := hf.symm.trans (He.glo_ok X G (c.d.fact 22 (f := .glo "law") rfl))
  injection e with e
  injection e with e
  subst e
  have b := FunD.bindsA (ps := ["_law_script"]) U_law fun _ _ _ _ _ _ us hl => match us, hl with | [_], _ => rfl
  have B : Bt mg := ⟨He.free_ok X G (c.d.fact 0 (f := .free "len") rfl), He.free_ok X G (c.d.fact 1 (f := .free "range") rfl), He.free_ok X G (c.d.fact 2 (f := .free "int") rfl), He.free_ok X G (c.d.fact 3 (f := .free "isinstance") rfl), He.free_ok X G (c.d.fact 4 (f := .free "repr") rfl), He.free_ok X G (c.d.fact 5 (f := .free "list") rfl), He.free_ok X G (c.d.fact 6 (f := .free "tuple") rfl), He.free_ok X G (c.d.fact 7 (f := .free "dict") rfl), He.free_ok X G (c.d.fact 8 (f := .free "set") rfl), He.free_ok X G (c.d.fact 9 (f := .free "str") rfl), He.free_ok X G (c.d.fact 10 (f := .free "bool") rfl), He.free_ok X G (c.d.fact 11 (f := .free "max") rfl), He.free_ok X G (c.d.fact 12 (f := .free "min") rfl), He.free_ok X G (c.d.fact 13 (f := .free "sorted") rfl), He.free_ok X G (c.d.fact 14 (f := .free "enumerate") rfl), He.free_ok X G (c.d.fact 15 (f := .free "zip") rfl), He.free_ok X G (c.d.fact 16 (f := .free "abs") rfl), He.free_ok X G (c.d.fact 17 (f := .free "all") rfl), He.free_ok X G (c.d.fact 18 (f := .free "any") rfl), He.free_ok X G (c.d.fact 19 (f := .free "super") rfl), He.free_ok X G (c.d.fact 20 (f := .free "ValueError") rfl), He.free_ok X G (c.d.fact 21 (f := .free "TypeError") rfl)⟩
  have x := c.x
  unfold exD at x
  obtain ⟨x0, x⟩ := Bool.and_eq_true_iff.mp x
  obtain ⟨x1, x⟩ := Bool.and_eq_true_iff.mp x
  obtain ⟨x2, x⟩ := Bool.and_eq_true_iff.mp x
  have C_MOST_DIGITS := He.int_ok X G (c.d.fact 23 (f := .int "MOST_DIGITS" (30)) rfl)
  have C_DIGITS := He.str_ok X G (c.d.fact 24 (f := .str "DIGITS" "0123456789") rfl)
  have C_MOST_LETTERS := He.int_ok X G (c.d.fact 25 (f := .int "MOST_LETTERS" (6)) rfl)
  have C_LETTERS := He.str_ok X G (c.d.fact 26 (f := .str "LETTERS" "abcdefghijklmnopqrstuvwxyz") rfl)
  have C_WORDS := cst_of X G (c.d.fact 27 (f := .glo "WORDS") rfl) x0
  have C_TOO_GREAT := He.int_ok X G (c.d.fact 28 (f := .int "TOO_GREAT" (1000000000000000000000000000000)) rfl)
  have C_ALONE := cst_of X G (c.d.fact 29 (f := .glo "ALONE") rfl) x1
  have C_MOST_NUMBER := He.int_ok X G (c.d.fact 30 (f := .int "MOST_NUMBER" (1000000)) rfl)
  have C_NUMBERED := cst_of X G (c.d.fact 31 (f := .glo "NUMBERED") rfl) x2
  have C_MOST_OPERATIONS := He.int_ok X G (c.d.fact 32 (f := .int "MOST_OPERATIONS" (60)) rfl)
  have A_number_in := at_of (x := "number_in") (st := s_number_in) (ps := ["word"]) X G (c.d.fact 33 (f := .glo "number_in") rfl) U_number_in fun _ _ _ _ _ _ us hl => match us, hl with | [_], _ => rfl
  have A_value_in := at_of (x := "value_in") (st := s_value_in) (ps := ["word"]) X G (c.d.fact 34 (f := .glo "value_in") rfl) U_value_in fun _ _ _ _ _ _ us hl => match us, hl with | [_], _ => rfl
  have A_is_integer := at_of (x := "is_integer") (st := s_is_integer) (ps := ["value"]) X G (c.d.fact 35 (f := .glo "is_integer") rfl) U_is_integer fun _ _ _ _ _ _ us hl => match us, hl with | [_], _ => rfl
  have A_is_from_to := at_of (x := "is_from_to") (st := s_is_from_to) (ps := ["value", "least", "most"]) X G (c.d.fact 36 (f := .glo "is_from_to") rfl) U_is_from_to fun _ _ _ _ _ _ us hl => match us, hl with | [_, _, _], _ => rfl
  have A_is_name := at_of (x := "is_name") (st := s_is_name) (ps := ["value"]) X G (c.d.fact 37 (f := .glo "is_name") rfl) U_is_name fun _ _ _ _ _ _ us hl => match us, hl with | [_], _ => rfl
  have A_is_mode := at_of (x := "is_mode") (st := s_is_mode) (ps := ["value"]) X G (c.d.fact 38 (f := .glo "is_mode") rfl) U_is_mode fun _ _ _ _ _ _ us hl => match us, hl with | [_], _ => rfl
  have A_is_change_mode := at_of (x := "is_change_mode") (st := s_is_change_mode) (ps := ["value"]) X G (c.d.fact 39 (f := .glo "is_change_mode") rfl) U_is_change_mode fun _ _ _ _ _ _ us hl => match us, hl with | [_], _ => rfl
  have A_is_value := at_of (x := "is_value") (st := s_is_value) (ps := ["value"]) X G (c.d.fact 40 (f := .glo "is_value") rfl) U_is_value fun _ _ _ _ _ _ us hl => match us, hl with | [_], _ => rfl
  have A_is_request := at_of (x := "is_request") (st := s_is_request) (ps := ["value"]) X G (c.d.fact 41 (f := .glo "is_request") rfl) U_is_request fun _ _ _ _ _ _ us hl => match us, hl with | [_], _ => rfl
  have A_is_operation := at_of (x := "is_operation") (st := s_is_operation) (ps := ["value"]) X G (c.d.fact 42 (f := .glo "is_operation") rfl) U_is_operation fun _ _ _ _ _ _ us hl => match us, hl with | [_], _ => rfl
  have A_operation_in := at_of (x := "operation_in") (st := s_operation_in) (ps := ["line"]) X G (c.d.fact 43 (f := .glo "operation_in") rfl) U_operation_in fun _ _ _ _ _ _ us hl => match us, hl with | [_], _ => rfl
  have A_read_history := at_of (x := "read_history") (st := s_read_history) (ps := ["text"]) X G (c.d.fact 44 (f := .glo "read_history") rfl) U_read_history fun _ _ _ _ _ _ us hl => match us, hl with | [_], _ => rfl
  have A_law_tape := at_of (x := "_law_tape") (st := s_law_tape) (ps := ["_law_script", "_law_start"]) X G (c.d.fact 45 (f := .glo "_law_tape") rfl) U_law_tape fun _ _ _ _ _ _ us hl => match us, hl with | [_, _], _ => rfl
  have A_law_pick := at_of (x := "_law_pick") (st := s_law_pick) (ps := ["_law_tape_here", "_law_many"]) X G (c.d.fact 46 (f := .glo "_law_pick") rfl) U_law_pick fun _ _ _ _ _ _ us hl => match us, hl with | [_, _], _ => rfl
  have A_law_one_of := at_of (x := "_law_one_of") (st := s_law_one_of) (ps := ["_law_tape_here", "_law_items"]) X G (c.d.fact 47 (f := .glo "_law_one_of") rfl) U_law_one_of fun _ _ _ _ _ _ us hl => match us, hl with | [_, _], _ => rfl
  have A_law_any := at_of (x := "_law_any") (st := s_law_any) (ps := ["_law_tape_here"]) X G (c.d.fact 48 (f := .glo "_law_any") rfl) U_law_any fun _ _ _ _ _ _ us hl => match us, hl with | [_], _ => rfl
  have A_law_deeds_text := at_of (x := "_law_deeds_text") (st := s_law_deeds_text) (ps := ["_law_history"]) X G (c.d.fact 49 (f := .glo "_law_deeds_text") rfl) U_law_deeds_text fun _ _ _ _ _ _ us hl => match us, hl with | [_], _ => rfl
  have A_law_bent := at_of (x := "_law_bent") (st := s_law_bent) (ps := ["_law_tape_here", "_law_text", "_law_odd"]) X G (c.d.fact 50 (f := .glo "_law_bent") rfl) U_law_bent fun _ _ _ _ _ _ us hl => match us, hl with | [_, _, _], _ => rfl
  have A_law_nym := at_of (x := "_law_nym") (st := s_law_nym) (ps := ["_law_tape_here"]) X G (c.d.fact 51 (f := .glo "_law_nym") rfl) U_law_nym fun _ _ _ _ _ _ us hl => match us, hl with | [_], _ => rfl
  have A_law_some_deed := at_of (x := "_law_some_deed") (st := s_law_some_deed) (ps := ["_law_tape_here"]) X G (c.d.fact 52 (f := .glo "_law_some_deed") rfl) U_law_some_deed fun _ _ _ _ _ _ us hl => match us, hl with | [_], _ => rfl
  have A_law_found := at_of (x := "_law_found") (st := s_law_found) (ps := ["_law_text"]) X G (c.d.fact 53 (f := .glo "_law_found") rfl) U_law_found fun _ _ _ _ _ _ us hl => match us, hl with | [_], _ => rfl
  have A_law_number := at_of (x := "_law_number") (st := s_law_number) (ps := ["_law_word", "_law_low", "_law_high"]) X G (c.d.fact 54 (f := .glo "_law_number") rfl) U_law_number fun _ _ _ _ _ _ us hl => match us, hl with | [_, _, _], _ => rfl
  have A_law_value := at_of (x := "_law_value") (st := s_law_value) (ps := ["_law_word"]) X G (c.d.fact 55 (f := .glo "_law_value") rfl) U_law_value fun _ _ _ _ _ _ us hl => match us, hl with | [_], _ => rfl
  have A_law_is_name := at_of (x := "_law_is_name") (st := s_law_is_name) (ps := ["_law_value_here"]) X G (c.d.fact 56 (f := .glo "_law_is_name") rfl) U_law_is_name fun _ _ _ _ _ _ us hl => match us, hl with | [_], _ => rfl
  have A_law_deed_of := at_of (x := "_law_deed_of") (st := s_law_deed_of) (ps := ["_law_line"]) X G (c.d.fact 57 (f := .glo "_law_deed_of") rfl) U_law_deed_of fun _ _ _ _ _ _ us hl => match us, hl with | [_], _ => rfl
  have A_law_history_of := at_of (x := "_law_history_of") (st := s_law_history_of) (ps := ["_law_text"]) X G (c.d.fact 58 (f := .glo "_law_history_of") rfl) U_law_history_of fun _ _ _ _ _ _ us hl => match us, hl with | [_], _ => rfl
  have A_law := at_of (x := "law") (st := s_law) (ps := ["_law_script"]) X G (c.d.fact 22 (f := .glo "law") rfl) U_law fun _ _ _ _ _ _ us hl => match us, hl with | [_], _ => rfl
  have hk_BadText := c.ok ed_BadText (by simp [esD])
  have ho_BadText := c.ob ed_BadText (by simp [esD])
  refine ⟨fd_law, fun s v => b s [v] rfl, fun base => ?_⟩
  have E_BadText : EDef PP w K mg base "BadText" ((cD K).ca.cl "BadText") ((cD K).ef "BadText") := edef_BadText X G hk_BadText ho_BadText
  have D_number_in : Def PP w K mg base "number_in" ["word"] 1 (spV0 (cD K) 1 F_number_in) := ok_number_in (P := PP) (c := cD K) A_number_in B C_MOST_DIGITS C_DIGITS
  have D_value_in : Def PP w K mg base "value_in" ["word"] 2 (spV0 (cD K) 1 F_value_in) := ok_value_in (P := PP) (c := cD K) A_value_in B D_number_in
  have D_is_integer : Def PP w K mg base "is_integer" ["value"] 1 (spV0 (cD K) 1 F_is_integer) := ok_is_integer (P := PP) (c := cD K) A_is_integer B
  have D_is_from_to : Def PP w K mg base "is_from_to" ["value", "least", "most"] 2 (spV0 (cD K) 3 F_is_from_to) := ok_is_from_to (P := PP) (c := cD K) A_is_from_to B D_is_integer
  have D_is_name : Def PP w K mg base "is_name" ["value"] 1 (spV0 (cD K) 1 F_is_name) := ok_is_name (P := PP) (c := cD K) A_is_name B C_MOST_LETTERS C_LETTERS
  have D_is_mode : Def PP w K mg base "is_mode" ["value"] 1 (spV0 (cD K) 1 F_is_mode) := ok_is_mode (P := PP) (c := cD K) A_is_mode B C_WORDS
  have D_is_change_mode : Def PP w K mg base "is_change_mode" ["value"] 1 (spV0 (cD K) 1 F_is_change_mode) := ok_is_change_mode (P := PP) (c := cD K) A_is_change_mode B C_WORDS
  have D_is_value : Def PP w K mg base "is_value" ["value"] 2 (spV0 (cD K) 1 F_is_value) := ok_is_value (P := PP) (c := cD K) A_is_value B C_TOO_GREAT D_is_integer
  have D_is_request : Def PP w K mg base "is_request" ["value"] 3 (spV0 (cD K) 1 F_is_request) := ok_is_request (P := PP) (c := cD K) A_is_request B D_is_name D_is_mode D_is_change_mode D_is_value
  have D_is_operation : Def PP w K mg base "is_operation" ["value"] 4 (spV0 (cD K) 1 F_is_operation) := ok_is_operation (P := PP) (c := cD K) A_is_operation B C_ALONE C_MOST_NUMBER C_NUMBERED C_MOST_OPERATIONS D_is_from_to D_is_request
  have D_operation_in : Def PP w K mg base "operation_in" ["line"] 5 (spV0 (cD K) 1 F_operation_in) := ok_operation_in (P := PP) (c := cD K) A_operation_in B C_ALONE D_number_in D_value_in D_is_operation
  have D_read_history : Def PP w K mg base "read_history" ["text"] 6 (spV0 (cD K) 1 F_read_history) := ok_read_history (P := PP) (c := cD K) A_read_history B E_BadText C_MOST_OPERATIONS D_operation_in
  have D_law_tape : Def PP w K mg base "_law_tape" ["_law_script", "_law_start"] 1 (spV0 (cD K) 2 F_law_tape) := ok_law_tape (P := PP) (c := cD K) A_law_tape B
  have D_law_pick : Def PP w K mg base "_law_pick" ["_law_tape_here", "_law_many"] 1 (spV0 (cD K) 2 F_law_pick) := ok_law_pick (P := PP) (c := cD K) A_law_pick B
  have D_law_one_of : Def PP w K mg base "_law_one_of" ["_law_tape_here", "_law_items"] 2 (spV0 (cD K) 2 F_law_one_of) := ok_law_one_of (P := PP) (c := cD K) A_law_one_of B D_law_pick
  have D_law_any : Def PP w K mg base "_law_any" ["_law_tape_here"] 3 (spV0 (cD K) 1 F_law_any) := ok_law_any (P := PP) (c := cD K) A_law_any B D_law_one_of
  have D_law_deeds_text : Def PP w K mg base "_law_deeds_text" ["_law_history"] 1 (spV0 (cD K) 1 F_law_deeds_text) := ok_law_deeds_text (P := PP) (c := cD K) A_law_deeds_text B
  have D_law_bent : Def PP w K mg base "_law_bent" ["_law_tape_here", "_law_text", "_law_odd"] 3 (spV0 (cD K) 3 F_law_bent) := ok_law_bent (P := PP) (c := cD K) A_law_bent B D_law_pick D_law_one_of
  have D_law_nym : Def PP w K mg base "_law_nym" ["_law_tape_here"] 3 (spV0 (cD K) 1 F_law_nym) := ok_law_nym (P := PP) (c := cD K) A_law_nym B D_law_one_of D_law_pick
  have D_law_some_deed : Def PP w K mg base "_law_some_deed" ["_law_tape_here"] 4 (spV0 (cD K) 1 F_law_some_deed) := ok_law_some_deed (P := PP) (c := cD K) A_law_some_deed B D_law_one_of D_law_nym
  have D_law_found : Def PP w K mg base "_law_found" ["_law_text"] 7 (spV0 (cD K) 1 F_law_found) := ok_law_found (P := PP) (c := cD K) A_law_found B E_BadText (of_decide_eq_true (c.d.fact 59 (f := .exm "BadText" "BadText" true) rfl)) efD_BadText D_read_history
  have D_law_number : Def PP w K mg base "_law_number" ["_law_word", "_law_low", "_law_high"] 1 (spV0 (cD K) 3 F_law_number) := ok_law_number (P := PP) (c := cD K) A_law_number B
  have D_law_value : Def PP w K mg base "_law_value" ["_law_word"] 2 (spV0 (cD K) 1 F_law_value) := ok_law_value (P := PP) (c := cD K) A_law_value B D_law_number
  have D_law_is_name : Def PP w K mg base "_law_is_name" ["_law_value_here"] 1 (spV0 (cD K) 1 F_law_is_name) := ok_law_is_name (P := PP) (c := cD K) A_law_is_name B
  have D_law_deed_of : Def PP w K mg base "_law_deed_of" ["_law_line"] 3 (spV0 (cD K) 1 F_law_deed_of) := ok_law_deed_of (P := PP) (c := cD K) A_law_deed_of B D_law_value D_law_number D_law_is_name
  have D_law_history_of : Def PP w K mg base "_law_history_of" ["_law_text"] 4 (spV0 (cD K) 1 F_law_history_of) := ok_law_history_of (P := PP) (c := cD K) A_law_history_of B D_law_deed_of
  have D_law : DefG PP w K mg base "law" ["_law_script"] 8 (spV0 (cD K) 1 F_law) := ok_law (P := PP) (c := cD K) A_law B D_law_tape D_law_any D_law_one_of D_law_deeds_text D_law_pick D_law_bent D_law_some_deed D_law_found D_law_history_of
  exact D_law.fn A_law
theorem noD (c : SaysE PP faD fnD esD exD K) : noLst K = true := by
  have x := c.x
  unfold exD at x
  obtain ⟨x0, x⟩ := Bool.and_eq_true_iff.mp x
  obtain ⟨x1, x⟩ := Bool.and_eq_true_iff.mp x
  obtain ⟨x2, x⟩ := Bool.and_eq_true_iff.mp x
  exact x
end
end Rm
open PySem PySem.W PySem.Calls PyProof.Rows in
theorem PySem.Challenge.cw_rowmarks_k90_texts_that_are_no_histories_holds : PySem.Challenge.rw_rowmarks_k90_texts_that_are_no_histories.Holds := by
  w_on; o_law
  refine HandSHeadRun.head_any (r := OpenLaw.row PySem.Challenge.rw_rowmarks_k90_texts_that_are_no_histories) (q := view (OpenLaw.row PySem.Challenge.rw_rowmarks_k90_texts_that_are_no_histories).prog [44]) (H := Rm.hookE Rm.PP 4 Rm.faD Rm.fnD Rm.esD Rm.exD) (ob := fun s => Rm.obsE Rm.PP 4 Rm.faD Rm.fnD Rm.esD Rm.exD (HandSHeadRun.getT s)) (M := 8000) (loose := Rm.looseD) (d := HandSHeadRun.topDef (OpenLaw.row PySem.Challenge.rw_rowmarks_k90_texts_that_are_no_histories).prog 44) (kwd := []) Rm.obsE_eq
    (by kernel_rfl) (fun s => by kernel_rfl) Rm.runD (by kernel_rfl) (by kernel_rfl) (by kernel_rfl) (by rfl) (by first | assumption | decide +kernel) (by decide +kernel) ⟨rfl, rfl, rfl, rfl, rfl, by decide +kernel⟩ ?hw ?hc
  case hw => w_witness2
  case hc =>
    refine Rm.walkG (l := PySem.Challenge.rw_rowmarks_k90_texts_that_are_no_histories) (n := 63) (k := 8) (x := "_law_script") rfl (by decide) (by kernel_rfl) ⟨rfl, by decide, by decide⟩ fun w mg fa h Y G hmg => ?_
    obtain ⟨K, KX, c⟩ := Y
    have en : (HandSHeadRun.topDef (OpenLaw.row PySem.Challenge.rw_rowmarks_k90_texts_that_are_no_histories).prog 44).name = ("law" : PySem.Str) := by kernel_rfl
    rw [en] at hmg
    obtain ⟨fd, hb, hF⟩ := Rm.factsD (w := w) KX G hmg c
    exact ⟨K, fd, _, KX, hb, fun H a ns hl hbits _ hS => Rm.endV (Rm.noD c) hS (Rm.law_t (Nat.lt_of_le_of_lt hl (by decide)) hbits), fun base _ _ => hF base⟩
