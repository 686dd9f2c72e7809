import PyProof.Rows.All
import Wide.All
import OpenK.AllK
import Wide.FinOn
import HandS.ForMost
import HandS.ForExc
import HandS.Lambda
import HandS.EndTab
import HandS.DeepEq
import HandS.Deep
import KE.KDictCopyH
import HandS.OwnEq
import HandS.Codes
import HandS.More
import HandS.IsInst
import HandS.Walk
import HandS.Slots
import HandS.Text
import HandS.SetKeys
import HandS.TupSets
import HandS.SlotsOwn
import HandS.Star
import HandS.DictComp
import HandS.Comp
import HandS.ExcIs
import HandS.Sort
import HandS.SortRule
import KE.KExcSuper
import KE.KSuper
import HandS.Exc
import HandS.ExcOwn
import HandS.WordsExc
import HandS.Small
import HandS.Style
import HandS.ListItems
import PyProof.Rows.TupDisplay
import HandS.Conv
import PyProof.ReprLen
import KE.KNestM
import PySem.Challenge.RW_answerskept_k92_pairs_of_machines
set_option Elab.async false
set_option linter.all false
set_option maxRecDepth 100000
namespace Kp
open PySem PySem.Spec PyProof.Rows L2
/-! ### defs that are called where nothing is being shown (for repr) -/
structure FnG (P : Program) (w : World) (K : PySem.W.Frag) (mg : Str → Option Value) (base : Heap) (CX : CXT) (k : Nat) (f : Addr) (fd : FuncData) (ps : List Str) (sp : Sp) : Prop where
  len : ∀ vs H Q E, sp vs H Q E → vs.length = ps.length
  run : ∀ (A : Around) (outer : List Env) (s : Shared) (H : Hp) (args : Args) (us : List Value) (vs : List V) (Q : VK) (E : XK), A.guards = some [] → Room k A → Env0 P w K mg base A outer s H → BindsTo s fd args (ps.zip us) → Vals vs us → sp vs H Q E →
    codeAny (model P w) A (.call (.ref f) args) (CR CX outer P w H s Q E) s
section
variable {P : Program} {w : World} {K : PySem.W.Frag} {mg : Str → Option Value} {base : Heap}
theorem FnG.of {CX : CXT} {k : Nat} {f : Addr} {fd : FuncData} {ps : List Str} {sp : Sp} (F : FnOk P w K mg base CX k f fd ps sp) : FnG P w K mg base CX k f fd ps sp :=
  ⟨F.len, fun A outer s H args us vs Q E _ hr e0 hb r h => F.run A outer s H args us vs Q E hr e0 hb r h⟩
theorem okG {x qual : Str} {st : Stmt} {f : Addr} {fd : FuncData} {N ps : List Str} {k : Nat} {sp : Sp} (F : Fun K x qual st f fd) (S : FnScope N ps (defScope st)) (len : ∀ vs H Q E, sp vs H Q E → vs.length = ps.length)
    (body : ∀ (cdv : Value) (A : Around) (outer : List Env) (s : Shared) (H : Hp) (vs : List V) (Q : VK) (E : XK), Room k (A.deeper (envOfC qual (defScope st) s.heap.objs.size f cdv)) → A.guards = some [] → sp vs H Q E →
      ∃ t, PSs (cxOf CX0 P w K mg base N qual (defScope st) f cdv A outer s H E).nox (defBody st) t ∧ t { nx := fun _ H' => Q .non H', rt := Q } (start N vs) H) : FnG P w K mg base CX0 (k + 1) f fd ps sp := by
  obtain ⟨oc, od, kV, doc, pm, an, cdv, ct, osl, rfl, lk, hcd⟩ := F.ex
  refine ⟨len, fun A outer s H args us vs Q E hg hr e0 hb r h => ?_⟩
  refine LamX.run_ofS lk hcd S hr e0 hb r (len vs H Q E h) fun hr' => ?_
  obtain ⟨t, ht, hq⟩ := body cdv A outer s H vs Q E hr' hg h
  exact ⟨t, ht.nox, hq⟩
end
section
variable {X : Cx} {CX : CXT} {k : Nat} {f : Addr} {fd : FuncData} {ps : List Str} {sp : Sp} {E : XK} {x : Str} {p pos : Pos} {e : Expr} {es : List Expr} {t : TA}
theorem pe_callG (gX : X.A.guards = some []) (F : FnG X.prog X.w X.K X.mg X.base CX k f fd ps sp) (hr : Room k X.A) (hg : Gl X x) (hm : X.mg x = some (.ref f)) (hk : PySem.W.keepIn X.K (.ref f) = true) (hb : Binds X.K fd ps []) (hx : Passes CX X E)
    (ha : PA X (e :: es) t) (hdb : (x == ("__debug__" : Str)) = false := by decide) (he : starEach (e :: es) X.env = (false, eval e X.env) :: starEach es X.env := by rfl) (hpl : (backTo pos (starEach es X.env)).any (·.1) = false := by rfl) :
    PE X (.Call (.Name x p) (e :: es) [] pos) (tCall sp [] E t) := by
  refine ⟨fun pins s σ H Q I h => wpAny_Call_Name_kw (ld_glob I hg hm ?_ hdb)⟩
  refine PySem.W.callWith_K (h₀ := X.base) I.ok.mod.kin hk (thn (ha.run pos pins s σ H _ I h) fun us s1 hq => ?_) he hpl
  obtain ⟨vs, H1, I1, r, q⟩ := hq
  have q' : sp (vs ++ []) H1 Q E := q
  rw [List.append_nil] at q'
  have hl : (us ++ []).length = ps.length := by
    rw [List.append_nil, ← r.length]
    exact F.len _ _ _ _ q'
  have bt := hb s1 us I1.kIn hl
  rw [List.append_nil] at bt
  refine ⟨I1.kIn, wpAny_call (codeAny_mono (F.run X.A X.stack s1 H1 ⟨us, []⟩ us vs Q E gX hr I1.env0 bt r q') fun r s' hq => ?_)⟩
  match r, hq with
  | .error e, hq => exact hx pins σ H1 s1 e s' I1 hq
  | .ok (.ret u), hq => exact I1.after hq
  | .ok .next, hq => exact False.elim hq
  | .ok .brk, hq => exact False.elim hq
  | .ok .cont, hq => exact False.elim hq
end
end Kp

set_option Elab.async false
set_option linter.all false
set_option maxRecDepth 100000
namespace Kp
open PySem PySem.Spec PyProof.Rows L2
/-! ### data in the abstract heap -/
def keyD : Key → PyData
  | .inl i => .int i
  | .inr x => .str x
mutual
inductive DD (K : PySem.W.Frag) (G : Hp) : V → PyData → Prop
  | non : DD K G .non .none
  | bl (b : Bool) : DD K G (.bl b) (.bool b)
  | int (i : Int) : DD K G (.int i) (.int i)
  | str (x : Str) : DD K G (.str x) (.str x)
  | lst {a : Addr} {xs : List V} {ds : List PyData} : SqL K G a xs → DDs K G xs ds → DD K G (.ref a) (.list ds)
  | tup {a : Addr} {xs : List V} {ds : List PyData} : SqT K G a xs → DDs K G xs ds → DD K G (.ref a) (.tuple ds)
  | dic {a : Addr} {kvs : List (Key × V)} {ps : List (PyData × PyData)} : G a = some (.dK kvs) → ps.map (·.1) = kvs.map (fun p => keyD p.1) → DDs K G (kvs.map (·.2)) (ps.map (·.2)) → DD K G (.ref a) (.dict ps)
  | dit {a : Addr} {kvs : List (List Key × V)} {ps : List (PyData × PyData)} : G a = some (.dT kvs) → ps.map (·.1) = kvs.map (fun p => .tuple (p.1.map keyD)) → DDs K G (kvs.map (·.2)) (ps.map (·.2)) → DD K G (.ref a) (.dict ps)
inductive DDs (K : PySem.W.Frag) (G : Hp) : List V → List PyData → Prop
  | nil : DDs K G [] []
  | cons {v : V} {vs : List V} {d : PyData} {ds : List PyData} : DD K G v d → DDs K G vs ds → DDs K G (v :: vs) (d :: ds)
end
section
variable {K : PySem.W.Frag} {G G' : Hp}
theorem rd_up {a : Addr} {u : HO} (e : Same G G') (h : Rd G a u) : Rd G' a u := h.elim (fun h => .inl (e _ _ h)) fun ⟨o, h⟩ => .inr ⟨o, e _ _ h⟩
theorem sqT_up {a : Addr} {xs : List V} (e : Same G G') (h : SqT K G a xs) : SqT K G' a xs := h.elim (fun h => .inl (rd_up e h)) .inr
mutual
theorem DD.up (e : Same G G') : ∀ {v : V} {d : PyData}, DD K G v d → DD K G' v d
  | _, _, .non => .non
  | _, _, .bl b => .bl b
  | _, _, .int i => .int i
  | _, _, .str x => .str x
  | _, _, .lst h hs => .lst (e.seq h) (DDs.up e hs)
  | _, _, .tup h hs => .tup (sqT_up e h) (DDs.up e hs)
  | _, _, .dic h hk hs => .dic (e _ _ h) hk (DDs.up e hs)
  | _, _, .dit h hk hs => .dit (e _ _ h) hk (DDs.up e hs)
theorem DDs.up (e : Same G G') : ∀ {vs : List V} {ds : List PyData}, DDs K G vs ds → DDs K G' vs ds
  | _, _, .nil => .nil
  | _, _, .cons h hs => .cons (DD.up e h) (DDs.up e hs)
end
theorem DDs.length : ∀ {vs : List V} {ds : List PyData}, DDs K G vs ds → vs.length = ds.length
  | _, _, .nil => rfl
  | _, _, .cons _ hs => congrArg (· + 1) (DDs.length hs)
theorem DDs.get : ∀ {vs : List V} {ds : List PyData} {i : Nat} {v : V}, DDs K G vs ds → vs[i]? = some v → ∃ d, ds[i]? = some d ∧ DD K G v d
  | _, _, _, _, .nil, e => by simp at e
  | _, _, 0, _, .cons h _, e => by simp at e; subst e; exact ⟨_, rfl, h⟩
  | _, _, i + 1, _, .cons _ hs, e => by
    obtain ⟨d, h1, h2⟩ := DDs.get (i := i) hs (by simpa using e)
    exact ⟨d, by simpa using h1, h2⟩
theorem DDs.getD : ∀ {vs : List V} {ds : List PyData} {i : Nat} {d : PyData}, DDs K G vs ds → ds[i]? = some d → ∃ v, vs[i]? = some v ∧ DD K G v d
  | _, _, _, _, .nil, e => by simp at e
  | _, _, 0, _, .cons h _, e => by simp at e; subst e; exact ⟨_, rfl, h⟩
  | _, _, i + 1, _, .cons _ hs, e => by
    obtain ⟨d, h1, h2⟩ := DDs.getD (i := i) hs (by simpa using e)
    exact ⟨d, by simpa using h1, h2⟩
theorem DDs.append : ∀ {vs ws : List V} {ds es : List PyData}, DDs K G vs ds → DDs K G ws es → DDs K G (vs ++ ws) (ds ++ es)
  | _, _, _, _, .nil, h => h
  | _, _, _, _, .cons a b, h => .cons a (DDs.append b h)
theorem DDs.one {v : V} {d : PyData} (h : DD K G v d) : DDs K G [v] [d] := .cons h .nil
theorem DDs.snoc {vs : List V} {ds : List PyData} {v : V} {d : PyData} (hs : DDs K G vs ds) (h : DD K G v d) : DDs K G (vs ++ [v]) (ds ++ [d]) := hs.append (.one h)
theorem DDs.take : ∀ {vs : List V} {ds : List PyData} (n : Nat), DDs K G vs ds → DDs K G (vs.take n) (ds.take n)
  | _, _, 0, _ => by simpa using DDs.nil
  | _, _, _ + 1, .nil => .nil
  | _, _, n + 1, .cons a b => .cons a (DDs.take n b)
theorem DDs.drop : ∀ {vs : List V} {ds : List PyData} (n : Nat), DDs K G vs ds → DDs K G (vs.drop n) (ds.drop n)
  | _, _, 0, h => h
  | _, _, _ + 1, .nil => .nil
  | _, _, n + 1, .cons _ b => DDs.drop n b
theorem DDs.rev {vs : List V} {ds : List PyData} (h : DDs K G vs ds) : DDs K G vs.reverse ds.reverse := by
  induction vs generalizing ds with
  | nil => cases h; exact .nil
  | cons v vs ih =>
    cases h with
    | cons a b => rw [List.reverse_cons, List.reverse_cons]; exact (ih b).snoc a
/-- by places -/
theorem DDs.of {vs : List V} {ds : List PyData} (hl : vs.length = ds.length) (h : ∀ (i : Nat) v d, vs[i]? = some v → ds[i]? = some d → DD K G v d) : DDs K G vs ds := by
  induction vs generalizing ds with
  | nil => cases ds with
    | nil => exact .nil
    | cons _ _ => simp at hl
  | cons v vs ih => cases ds with
    | nil => simp at hl
    | cons d ds => exact .cons (h 0 v d rfl rfl) (ih (by simpa using hl) fun i v d e1 e2 => h (i + 1) v d (by simpa using e1) (by simpa using e2))
theorem DDs.strs (xs : List Str) : DDs K G (xs.map V.str) (xs.map PyData.str) := by
  induction xs with
  | nil => exact .nil
  | cons x xs ih => exact .cons (.str x) ih
theorem DDs.ints (xs : List Int) : DDs K G (xs.map V.int) (xs.map PyData.int) := by
  induction xs with
  | nil => exact .nil
  | cons x xs ih => exact .cons (.int x) ih
theorem DDs.strs_inv : ∀ {vs : List V} {xs : List Str}, DDs K G vs (xs.map PyData.str) → vs = xs.map V.str
  | _, [], h => by cases h; rfl
  | _, x :: xs, h => by
    cases h with
    | cons a b => cases a; rw [DDs.strs_inv b]; rfl
theorem DDs.ints_inv : ∀ {vs : List V} {xs : List Int}, DDs K G vs (xs.map PyData.int) → vs = xs.map V.int
  | _, [], h => by cases h; rfl
  | _, x :: xs, h => by
    cases h with
    | cons a b => cases a; rw [DDs.ints_inv b]; rfl
theorem DD.list_inv {v : V} {ds : List PyData} (h : DD K G v (.list ds)) : ∃ a xs, v = .ref a ∧ SqL K G a xs ∧ DDs K G xs ds := by
  cases h with
  | lst h hs => exact ⟨_, _, rfl, h, hs⟩
theorem DD.tuple_inv {v : V} {ds : List PyData} (h : DD K G v (.tuple ds)) : ∃ a xs, v = .ref a ∧ SqT K G a xs ∧ DDs K G xs ds := by
  cases h with
  | tup h hs => exact ⟨_, _, rfl, h, hs⟩
theorem DD.str_inv {v : V} {x : Str} (h : DD K G v (.str x)) : v = .str x := by cases h; rfl
theorem DD.int_inv {v : V} {x : Int} (h : DD K G v (.int x)) : v = .int x := by cases h; rfl
theorem DD.bool_inv {v : V} {x : Bool} (h : DD K G v (.bool x)) : v = .bl x := by cases h; rfl
theorem DD.none_inv {v : V} (h : DD K G v .none) : v = .non := by cases h; rfl
end
/-! ### .. as the library reads it -/
/-- where sys.modules stands there is a dict -/
def SysB (base : Heap) : Prop := ∃ o es ep, base.get? sysModules = some o ∧ o.data = .dict es ep
theorem keyD_reads {h : Heap} {k : Key} {v : Value} (e : keyIs k v = true) : Reads h v (keyD k) [] := by
  rcases keyIs_shape e with ⟨i, t, rfl, rfl⟩ | ⟨x, t, rfl, rfl⟩
  · exact .int i t
  · exact .str x t
theorem keys_read {h : Heap} : ∀ {ks : List Key} {vs : List Value}, ItemsAre (mixKind P w) ks vs → ReadsAll h vs (ks.map keyD) []
  | _, _, .nil => .nil
  | _, _, .cons e r => ReadsAll.cons (as := []) (keyD_reads e) (keys_read r)
section
variable {X : Cx} {pins : List (Addr × Obj)} {σ : L2.St} {H : Hp} {s : Shared}
theorem pairs_read {h : Heap} : ∀ {es : List DictEntry} {vs : List (Key × Value)} {kvs : List (Key × V)}, Pairs (mixKind X.prog X.w) es vs → KV kvs vs →
    ReadsAll h (es.map (·.key)) (kvs.map fun p => keyD p.1) [] ∧ Vals (kvs.map (·.2)) (es.map (·.val))
  | _, _, _, .nil, r => by cases r; exact ⟨.nil, .nil⟩
  | _, _, _, .cons hk hv hp, r => by
    cases r with
    | cons q t =>
      obtain ⟨i1, i2⟩ := pairs_read (h := h) hp t
      have k1 := keyD_reads (h := h) hk
      rw [← q.1] at k1
      have k2 := q.2
      rw [← hv] at k2
      exact ⟨ReadsAll.cons (as := []) k1 i1, .cons k2 i2⟩
theorem rd_ne (I : Inv X pins σ H s) (sb : SysB X.base) {a : Addr} {u : HO} (h : Rd H a u) : a ≠ sysModules := fun e => by
  obtain ⟨o, es, ep, ho, _⟩ := sb
  have q := (I.bs _ _ ho).2
  rw [← e] at q
  rcases h with h | ⟨_, h⟩
  · rw [h] at q; cases q
  · rw [h] at q; cases q
theorem sqL_ne (I : Inv X pins σ H s) (sb : SysB X.base) {a : Addr} {xs : List V} (h : SqL X.K H a xs) : a ≠ sysModules := by
  rcases h with h | ⟨o, its, n, hk, _, _, hd, _⟩
  · exact rd_ne I sb h
  · rintro rfl
    obtain ⟨o', es, ep, ho, hd'⟩ := sb
    have e := I.ok.mod.kin _ _ hk
    rw [ho] at e
    cases e
    rw [hd] at hd'
    cases hd'
mutual
theorem DD.reads (I : Inv X pins σ H s) (sb : SysB X.base) : ∀ {v : V} {d : PyData}, DD X.K H v d → ∀ {u : Value}, RelV v u → ∃ as, Reads s.heap u d as ∧ sysModules ∉ as
  | _, _, .non, _, r => by cases r; exact ⟨_, .none, by simp⟩
  | _, _, .bl b, _, r => by cases r; exact ⟨_, .bool b, by simp⟩
  | _, _, .int i, _, r => by obtain ⟨t, rfl⟩ := r; exact ⟨_, .int i t, by simp⟩
  | _, _, .str x, _, r => by obtain ⟨t, rfl⟩ := r; exact ⟨_, .str x t, by simp⟩
  | _, _, .lst h hs, _, r => by
    cases r
    obtain ⟨its, rv, ⟨o, n, ho, hc, _, hd⟩, _⟩ := I.list h
    obtain ⟨as, hr, hn⟩ := DDs.reads I sb hs rv
    exact ⟨_, .list ho hc hd hr, fun m => (List.mem_cons.mp m).elim (fun e => sqL_ne I sb h e.symm) hn⟩
  | _, _, .tup h hs, _, r => by
    cases r
    obtain ⟨its, rv, ⟨o, ho, hc, n, hd⟩, _⟩ := I.tuple h
    obtain ⟨as, hr, hn⟩ := DDs.reads I sb hs rv
    exact ⟨_, .tuple ho hc hd hr, hn⟩
  | _, _, .dic h hk hs, _, r => by
    cases r
    obtain ⟨_, ha, vs, kv, o, es, ep, ho, hx, hd, _, hp, _⟩ := dk_rd I.hok (.inl h)
    obtain ⟨r1, r2⟩ := pairs_read (h := s.heap) hp kv
    obtain ⟨as, hr, hn⟩ := DDs.reads I sb hs r2
    refine ⟨_, .dict ho hx.1 hd (by rw [hk]; exact r1) hr, fun m => ?_⟩
    rcases List.mem_cons.mp m with e | m
    · exact rd_ne I sb (.inl h) e.symm
    · exact hn (by simpa using m)
  | _, _, .dit h hk hs, _, r => by
    cases r
    obtain ⟨_, ha, xs, kt, o, es, ep, ho, hx, hd, he, hi, _⟩ := dt_rd I.hok (.inl h)
    rename_i kvs ps _
    have both : ∀ {l : List (List Key × V)} {m : List (List Key × Addr × Value)}, KT H l m → (∀ x ∈ m, (tupleKind (mixKind X.prog X.w)).is s.heap x.1 x.2.1) →
        ReadsAll s.heap (m.map fun x => Value.ref x.2.1) (l.map fun p => .tuple (p.1.map keyD)) [] ∧ Vals (l.map (·.2)) (m.map (·.2.2)) := by
      intro l m q
      induction q with
      | nil => intro _; exact ⟨.nil, .nil⟩
      | @cons p q ps qs h t ih =>
        intro hi
        obtain ⟨i1, i2⟩ := ih fun x hx => hi x (List.mem_cons_of_mem _ hx)
        obtain ⟨o, items, n, e1, e2, e3, e4⟩ := hi q List.mem_cons_self
        have k4 := keys_read (h := s.heap) e4
        rw [← h.1] at k4
        exact ⟨ReadsAll.cons (as := []) (.tuple e1 e2 e3 k4) i1, .cons h.2.2 i2⟩
    obtain ⟨r1, r2⟩ := both kt hi
    have k1 : es.toList.map (·.key) = xs.map fun x => Value.ref x.2.1 := by rw [he, List.map_map]; rfl
    have k2 : es.toList.map (·.val) = xs.map (·.2.2) := by rw [he, List.map_map]; rfl
    obtain ⟨as, hr, hn⟩ := DDs.reads I sb hs r2
    refine ⟨_, .dict (as := []) ho hx.1 hd (by rw [hk, k1]; exact r1) (by rw [k2]; exact hr), fun m => ?_⟩
    rcases List.mem_cons.mp m with e | m
    · exact rd_ne I sb (.inl h) e.symm
    · exact hn (by simpa using m)
theorem DDs.reads (I : Inv X pins σ H s) (sb : SysB X.base) : ∀ {vs : List V} {ds : List PyData}, DDs X.K H vs ds → ∀ {us : List Value}, Vals vs us → ∃ as, ReadsAll s.heap us ds as ∧ sysModules ∉ as
  | _, _, .nil, _, r => by cases r; exact ⟨_, .nil, by simp⟩
  | _, _, .cons h hs, _, r => by
    cases r with
    | cons r1 r2 =>
      obtain ⟨as, q1, n1⟩ := DD.reads I sb h r1
      obtain ⟨bs, q2, n2⟩ := DDs.reads I sb hs r2
      exact ⟨_, .cons q1 q2, fun m => (List.mem_append.mp m).elim n1 n2⟩
end
/-- repr of data -/
def rRepr (K : PySem.W.Frag) : List V → Hp → VK → Prop := fun xs H Q => ∃ v d, xs = [v] ∧ DD K H v d ∧ d.showable = true ∧ d.depth ≤ 60 ∧ d.shown.length ≤ sizeLine ∧ Q (.str d.shown) H
theorem call_repr (gX : X.A.guards = some []) (hu : X.A.units + 64 < cLine) (sb : SysB X.base) : CallR X (.builtin "repr") (rRepr X.K) := by
  intro pins s σ H xs us Q I r h
  obtain ⟨v, d, rfl, hd, hs, hp, hz, q⟩ := h
  obtain ⟨u, rfl, ru⟩ := vals1 r
  cases hd with
  | non => cases ru; exact PySem.P.repr_of_none ⟨.str _, H, I.tok _, ⟨_, rfl⟩, q⟩
  | bl b =>
    cases ru
    refine PySem.P.repr_of_bool ⟨.str _, H, I.tok _, ⟨_, rfl⟩, q⟩
  | int i =>
    obtain ⟨t, rfl⟩ := ru
    exact PySem.P.repr_of_int (of_decide_eq_true (by simpa [PyData.showable] using hs)) ⟨.str _, H, I.tok _, ⟨_, rfl⟩, q⟩
  | str x =>
    obtain ⟨t, rfl⟩ := ru
    exact PySem.P.repr_of_str ⟨.str _, H, I.tok _, ⟨_, rfl⟩, q⟩ hz
  | lst h hs' =>
    obtain ⟨as, hr, hn⟩ := DD.reads I sb (.lst h hs') ru
    cases ru
    exact repr_of_reads' hr hs (fun _ => hn) gX (by omega) (fun _ _ e => e) (fun h' u tk k => ⟨.str _, H, I.kept k, ⟨_, rfl⟩, q⟩) hz
  | tup h hs' =>
    obtain ⟨as, hr, hn⟩ := DD.reads I sb (.tup h hs') ru
    cases ru
    exact repr_of_reads' hr hs (fun _ => hn) gX (by omega) (fun _ _ e => e) (fun h' u tk k => ⟨.str _, H, I.kept k, ⟨_, rfl⟩, q⟩) hz
  | dic h hk hs' =>
    obtain ⟨as, hr, hn⟩ := DD.reads I sb (.dic h hk hs') ru
    cases ru
    exact repr_of_reads' hr hs (fun _ => hn) gX (by omega) (fun _ _ e => e) (fun h' u tk k => ⟨.str _, H, I.kept k, ⟨_, rfl⟩, q⟩) hz
  | dit h hk hs' =>
    obtain ⟨as, hr, hn⟩ := DD.reads I sb (.dit h hk hs') ru
    cases ru
    exact repr_of_reads' hr hs (fun _ => hn) gX (by omega) (fun _ _ e => e) (fun h' u tk k => ⟨.str _, H, I.kept k, ⟨_, rfl⟩, q⟩) hz
end
end Kp

set_option Elab.async false
set_option linter.all false
set_option maxRecDepth 100000
namespace Kp
open PySem PySem.Spec PyProof.Rows L2
/-! ### == of data that is the same -/
def notTup : PyData → Bool
  | .tuple _ => false
  | _ => true
mutual
/-- no dict in it has tuples for keys -/
def noT : PyData → Bool
  | .list xs => noTs xs
  | .tuple xs => noTs xs
  | .dict kvs => noTk kvs
  | _ => true
def noTs : List PyData → Bool
  | [] => true
  | x :: r => noT x && noTs r
def noTk : List (PyData × PyData) → Bool
  | [] => true
  | (k, v) :: r => notTup k && noT v && noTk r
end
theorem noTs_mem : ∀ {l : List PyData} {x : PyData}, noTs l = true → x ∈ l → noT x = true
  | y :: r, x, h, m => by
    have h' : noT y = true ∧ noTs r = true := by simpa [noTs] using h
    rcases List.mem_cons.mp m with rfl | m
    · exact h'.1
    · exact noTs_mem h'.2 m
theorem noTk_mem : ∀ {l : List (PyData × PyData)} {p : PyData × PyData}, noTk l = true → p ∈ l → (∀ ks, p.1 ≠ .tuple ks) ∧ noT p.2 = true
  | (k, v) :: r, p, h, m => by
    have h0 : (notTup k && noT v && noTk r) = true := h
    rw [Bool.and_eq_true, Bool.and_eq_true] at h0
    have h' := h0
    rcases List.mem_cons.mp m with rfl | m
    · refine ⟨fun ks e => ?_, h'.1.2⟩
      have e' : k = .tuple ks := e
      subst e'
      exact Bool.noConfusion h'.1.1
    · exact noTk_mem h'.2 m
theorem depth_mem : ∀ {l : List PyData} {x : PyData}, x ∈ l → x.depth ≤ PyData.depthAll l
  | y :: r, x, m => by
    simp only [PyData.depthAll]
    rcases List.mem_cons.mp m with rfl | m
    · omega
    · have := depth_mem m; omega
theorem depthKv_mem : ∀ {l : List (PyData × PyData)} {p : PyData × PyData}, p ∈ l → p.2.depth ≤ PyData.depthKv l
  | (k, v) :: r, p, m => by
    simp only [PyData.depthKv]
    rcases List.mem_cons.mp m with rfl | m
    · show v.depth ≤ _; omega
    · have := depthKv_mem m; omega
theorem keyD_inj : ∀ {a b : Key}, keyD a = keyD b → a = b
  | .inl i, .inl j, e => by injection e with e; rw [e]
  | .inr i, .inr j, e => by injection e with e; rw [e]
  | .inl i, .inr j, e => by cases e
  | .inr i, .inl j, e => by cases e
theorem valV_at {κ : Type} [DecidableEq κ] : ∀ {l : List (κ × V)} {i : Nat} {p : κ × V}, (l.map (·.1)).Nodup → l[i]? = some p → valV l p.1 = some p.2
  | q :: r, 0, p, h, e => by
    simp at e
    subst e
    unfold valV
    rw [List.find?_cons_of_pos (by simp)]
    rfl
  | q :: r, i + 1, p, h, e => by
    have h' : ¬ q.1 ∈ r.map (·.1) ∧ (r.map (·.1)).Nodup := List.nodup_cons.mp h
    have e' : r[i]? = some p := by simpa using e
    have ne : ¬ q.1 = p.1 := fun z => h'.1 (by rw [z]; exact List.mem_map.mpr ⟨p, List.mem_of_getElem? e', rfl⟩)
    have ih := valV_at h'.2 e'
    unfold valV at ih ⊢
    rw [List.find?_cons_of_neg (by simpa using ne)]
    exact ih
theorem kv_keys {κ : Type} {ls : List (κ × V)} {vb : List (κ × Value)} (r : KV ls vb) : ls.map (·.1) = vb.map (·.1) := by
  induction r with
  | nil => rfl
  | cons h _ ih => rw [List.map_cons, List.map_cons, ih, h.1]
section
variable {X : Cx} {pins : List (Addr × Obj)} {σ : L2.St} {H : Hp} {s : Shared}
/-- of the same data -/
def SameD (K : PySem.W.Frag) (H : Hp) (n : Nat) (x y : V) : Prop := ∃ d, d.depth ≤ n ∧ noT d = true ∧ DD K H x d ∧ DD K H y d
theorem dic_of {K : PySem.W.Frag} {a : Addr} {ps : List (PyData × PyData)} (I : Inv X pins σ H s) (hT : noTk ps = true) (h : DD X.K H (.ref a) (.dict ps)) :
    ∃ (kvs : List (Key × V)) (vs : List (Key × Value)), (a == sysModules) = false ∧ KV kvs vs ∧ s.heap.DictOf (mixKind X.prog X.w) a vs ∧ ps.map (·.1) = kvs.map (fun p => keyD p.1) ∧ DDs X.K H (kvs.map (·.2)) (ps.map (·.2)) := by
  cases h with
  | dic h hk hs =>
    obtain ⟨_, ha, vs, kv, hd⟩ := dk_rd I.hok (.inl h)
    exact ⟨_, vs, ha, kv, hd, hk, hs⟩
  | dit h hk hs =>
    rename_i kvs
    cases kvs with
    | nil =>
      obtain ⟨_, ha, xs, kt, o, es, ep, ho, hx, hd, he, _, _⟩ := dt_rd I.hok (.inl h)
      cases kt
      refine ⟨[], [], ha, .nil, ⟨o, es, ep, ho, hx, hd, ?_, ?_, List.nodup_nil⟩, by simpa using hk, by simpa using hs⟩
      · intro e m
        have : es.toList = [] := by simpa using he
        have m' : e ∈ es.toList := Array.mem_toList_iff.mpr m
        rw [this] at m'
        cases m'
      · rw [he]; exact .nil
    | cons p r =>
      cases ps with
      | nil => simp at hk
      | cons q t =>
        have e : q.1 = .tuple (p.1.map keyD) := by simpa using (List.cons.inj hk).1
        exact absurd e ((noTk_mem hT List.mem_cons_self).1 _)
theorem rcD_run (I : Inv X pins σ H s) {m : Nat} (ih : ∀ (A : Around), A.units + m < cLine → ∀ (x y : V) (v u : Value), SameD X.K H m x y → RelV x v → RelV y u → SeqAt.EqP X.prog X.w A s v u true)
    {A : Around} (hu : A.units + (m + 1) < cLine) {a b : Addr} (h : SameD X.K H (m + 1) (.ref a) (.ref b)) (E Q : Value → Shared → Prop) (hq : Q (.bool true) s) : wpAny (model X.prog X.w) A (richCompare .Eq (.ref a) (.ref b)) Q E s := by
  obtain ⟨d, hd, ht, dx, dy⟩ := h
  have hu' : A.in1.units + m < cLine := by show A.units + 1 + m < cLine; omega
  cases d with
  | none => cases dx
  | bool b => cases dx
  | int b => cases dx
  | str b => cases dx
  | list ds =>
    obtain ⟨a', xs, ea, ha, hxs⟩ := dx.list_inv
    obtain ⟨b', ys, eb, hb, hys⟩ := dy.list_inv
    cases ea; cases eb
    obtain ⟨us, r1, p1, _⟩ := I.list ha
    obtain ⟨ws, r2, p2, _⟩ := I.list hb
    simp only [PyData.depth] at hd
    refine SeqAt.rcP_lists (A := A) (e := fun _ => true) p1.isList p2.isList (by rw [List.size_toArray, List.size_toArray, ← r1.length, ← r2.length, hxs.length, hys.length]) (by omega) (fun j h1 h2 => ?_) E Q ?_
    · have h1' : j < us.length := by simpa using h1
      have h2' : j < ws.length := by simpa using h2
      have k1 : j < xs.length := by rw [r1.length]; exact h1'
      have k2 : j < ys.length := by rw [r2.length]; exact h2'
      obtain ⟨d1, e1, q1⟩ := hxs.get (List.getElem?_eq_getElem k1)
      obtain ⟨d2, e2, q2⟩ := hys.get (List.getElem?_eq_getElem k2)
      rw [e1] at e2
      cases e2
      obtain ⟨w1, g1, rr1⟩ := r1.get (List.getElem?_eq_getElem k1)
      obtain ⟨w2, g2, rr2⟩ := r2.get (List.getElem?_eq_getElem k2)
      rw [List.getElem?_eq_getElem h1'] at g1
      rw [List.getElem?_eq_getElem h2'] at g2
      have m1 := List.mem_of_getElem? e1
      have dm := depth_mem m1
      have := ih A.in1 hu' _ _ w1 w2 ⟨d1, by omega, noTs_mem ht m1, q1, q2⟩ rr1 rr2
      rw [← Option.some.inj g1, ← Option.some.inj g2] at this
      simpa using this
    · have e1 : ((List.range us.toArray.size).all fun _ => true) = true := List.all_eq_true.mpr fun _ _ => rfl
      rw [e1]
      exact hq
  | tuple ds =>
    obtain ⟨a', xs, ea, ha, hxs⟩ := dx.tuple_inv
    obtain ⟨b', ys, eb, hb, hys⟩ := dy.tuple_inv
    cases ea; cases eb
    obtain ⟨us, r1, p1, _⟩ := I.tuple ha
    obtain ⟨ws, r2, p2, _⟩ := I.tuple hb
    simp only [PyData.depth] at hd
    refine GQ.rc_tupG (by rw [List.size_toArray, List.size_toArray, ← r1.length, ← r2.length, hxs.length, hys.length]) (by omega) (fun _ s' => s' = s) p1 p2 (fun j h1 h2 s' es => ?_) (fun s' es => by rw [show s' = s from es]; exact hq) rfl
    rw [show s' = s from es]
    have h1' : j < us.length := by simpa using h1
    have h2' : j < ws.length := by simpa using h2
    have k1 : j < xs.length := by rw [r1.length]; exact h1'
    have k2 : j < ys.length := by rw [r2.length]; exact h2'
    obtain ⟨d1, e1, q1⟩ := hxs.get (List.getElem?_eq_getElem k1)
    obtain ⟨d2, e2, q2⟩ := hys.get (List.getElem?_eq_getElem k2)
    rw [e1] at e2
    cases e2
    obtain ⟨w1, g1, rr1⟩ := r1.get (List.getElem?_eq_getElem k1)
    obtain ⟨w2, g2, rr2⟩ := r2.get (List.getElem?_eq_getElem k2)
    rw [List.getElem?_eq_getElem h1'] at g1
    rw [List.getElem?_eq_getElem h2'] at g2
    have m1 := List.mem_of_getElem? e1
    have dm := depth_mem m1
    have := ih A.in1 hu' _ _ w1 w2 ⟨d1, by omega, noTs_mem ht m1, q1, q2⟩ rr1 rr2
    rw [← Option.some.inj g1, ← Option.some.inj g2] at this
    refine this E _ ?_ |> fun z => by simpa using z
    exact ⟨rfl, rfl⟩
  | dict ps =>
    obtain ⟨ks, va, na, ra, da, ka, hxs⟩ := dic_of (K := X.K) I ht dx
    obtain ⟨ls, vb, nb, rb, db, kb, hys⟩ := dic_of (K := X.K) I ht dy
    simp only [PyData.depth] at hd
    have hl : ks.length = ls.length := by
      have := hxs.length
      have := hys.length
      simp only [List.length_map] at *
      omega
    have ndb : (ls.map (·.1)).Nodup := by
      obtain ⟨_, _, _, _, _, _, _, _, nd⟩ := id db
      rw [kv_keys rb]
      exact nd
    refine PySem.W.rcP_dicts (knd := mixKind X.prog X.w) (r := true) na nb da db (by omega) (fun _ => hits_run (F := SameD X.K H m) (fun x y v u f rv ru => ih A.in1 hu' x y v u f rv ru) rb ra fun p hp => ?_) E Q ?_
    · obtain ⟨i, hi⟩ := List.getElem?_of_mem hp
      have hi2 : i < ls.length := by rw [← hl]; exact (List.getElem?_eq_some_iff.mp hi).1
      obtain ⟨q, hq⟩ : ∃ q, ls[i]? = some q := ⟨_, List.getElem?_eq_getElem hi2⟩
      have kk : keyD p.1 = keyD q.1 := by
        have e1 : (ks.map fun p => keyD p.1)[i]? = (ls.map fun p => keyD p.1)[i]? := by rw [← ka, ← kb]
        rw [List.getElem?_map, List.getElem?_map, hi, hq] at e1
        exact Option.some.inj e1
      obtain ⟨d1, e1, q1⟩ := hxs.get (i := i) (v := p.2) (by rw [List.getElem?_map, hi]; rfl)
      obtain ⟨d2, e2, q2⟩ := hys.get (i := i) (v := q.2) (by rw [List.getElem?_map, hq]; rfl)
      rw [e1] at e2
      cases e2
      rw [List.getElem?_map] at e1
      obtain ⟨pp, hp1, hp2⟩ := Option.map_eq_some_iff.mp e1
      subst hp2
      have mm := List.mem_of_getElem? hp1
      have dm := depthKv_mem mm
      refine ⟨q.2, ?_, pp.2, by omega, (noTk_mem ht mm).2, q1, q2⟩
      rw [keyD_inj kk]
      exact valV_at ndb hq
    · have e2 : va.length = vb.length := by rw [← ra.length, ← rb.length]; exact hl
      rw [show (va.length == vb.length && true) = true from by rw [e2]; simp]
      exact hq
theorem depth_ref {K : PySem.W.Frag} {a : Addr} {d : PyData} (h : DD K H (.ref a) d) : 0 < d.depth := by
  cases h <;> simp [PyData.depth]
theorem sameD_run (I : Inv X pins σ H s) : ∀ (n : Nat) (A : Around), A.units + n < cLine → ∀ (x y : V) (v u : Value), SameD X.K H n x y → RelV x v → RelV y u → SeqAt.EqP X.prog X.w A s v u true
  | n, A, hu, x, y, v, u, ⟨d, hd, ht, dx, dy⟩, rx, ry => by
    have flat : flatB x = true → x = y → SeqAt.EqP X.prog X.w A s v u true := fun f e => by
      subst e
      exact (eqAt_same rx ry f).eqP
    have refs : ∀ {a b : Addr}, x = .ref a → y = .ref b → SeqAt.EqP X.prog X.w A s v u true := fun {a b} ex ey => by
      subst ex; subst ey
      cases rx; cases ry
      by_cases e : a = b
      · subst e; exact (SeqAt.EqAt.same _).eqP
      · have := depth_ref dx
        obtain ⟨m, rfl⟩ : ∃ m, n = m + 1 := ⟨n - 1, by omega⟩
        exact SeqAt.eqP_refs e fun E Q hq => rcD_run I (sameD_run I m) hu ⟨d, hd, ht, dx, dy⟩ E Q hq
    cases d with
    | none => cases dx; cases dy; exact flat rfl rfl
    | bool b => cases dx; cases dy; exact flat rfl rfl
    | int b => cases dx; cases dy; exact flat rfl rfl
    | str b => cases dx; cases dy; exact flat rfl rfl
    | list ds =>
      obtain ⟨a, _, ex, _⟩ := dx.list_inv
      obtain ⟨b, _, ey, _⟩ := dy.list_inv
      exact refs ex ey
    | tuple ds =>
      obtain ⟨a, _, ex, _⟩ := dx.tuple_inv
      obtain ⟨b, _, ey, _⟩ := dy.tuple_inv
      exact refs ex ey
    | dict ps =>
      obtain ⟨a, ex⟩ : ∃ a, x = .ref a := by cases dx <;> exact ⟨_, rfl⟩
      obtain ⟨b, ey⟩ : ∃ a, y = .ref a := by cases dy <;> exact ⟨_, rfl⟩
      exact refs ex ey
end
section
variable {X : Cx}
/-- a == b, of the same data -/
def rEqS (K : PySem.W.Frag) : R2 := fun x y H Q => ∃ d, d.depth ≤ 60 ∧ noT d = true ∧ DD K H x d ∧ DD K H y d ∧ Q (.bl true) H
theorem op_eqS (hu : X.A.units + 64 < cLine) : OpR X (compareOp .Eq) (rEqS X.K) := by
  intro pins s σ H x y v u Q I rx ry h
  obtain ⟨d, hd, ht, dx, dy, q⟩ := h
  have refs : ∀ {a b : Addr}, x = .ref a → y = .ref b → wpAny (model X.prog X.w) X.A (compareOp .Eq v u) (EP X pins σ Q) X.xe s := fun {a b} ex ey => by
    subst ex; subst ey
    cases rx; cases ry
    have e : d.depth = (d.depth - 1) + 1 := by have := depth_ref dx; omega
    exact rcD_run I (sameD_run I (d.depth - 1)) (by omega) ⟨d, by omega, ht, dx, dy⟩ _ _ ⟨.bl true, H, I, rfl, q⟩
  cases d with
  | none => cases dx; cases dy; exact op_eq (X := X) pins s σ H _ _ v u Q I rx ry ⟨rfl, by simpa using q⟩
  | bool b => cases dx; cases dy; exact op_eq (X := X) pins s σ H _ _ v u Q I rx ry ⟨rfl, by simpa using q⟩
  | int b => cases dx; cases dy; exact op_eq (X := X) pins s σ H _ _ v u Q I rx ry ⟨rfl, by simpa using q⟩
  | str b => cases dx; cases dy; exact op_eq (X := X) pins s σ H _ _ v u Q I rx ry ⟨rfl, by simpa using q⟩
  | list ds =>
    obtain ⟨a, _, ex, _⟩ := dx.list_inv
    obtain ⟨b, _, ey, _⟩ := dy.list_inv
    exact refs ex ey
  | tuple ds =>
    obtain ⟨a, _, ex, _⟩ := dx.tuple_inv
    obtain ⟨b, _, ey, _⟩ := dy.tuple_inv
    exact refs ex ey
  | dict ps =>
    obtain ⟨a, ex⟩ : ∃ a, x = .ref a := by cases dx <;> exact ⟨_, rfl⟩
    obtain ⟨b, ey⟩ : ∃ a, y = .ref a := by cases dy <;> exact ⟨_, rfl⟩
    exact refs ex ey
end
end Kp

set_option Elab.async false
set_option linter.all false
set_option maxRecDepth 100000
namespace Kp
open PySem PySem.Spec PyProof.Rows L2
/-! ### the end of a law's row, for a def that is called where nothing is being shown; with tables of code objects -/
/-- what is tracked when the law is called: its script (where the written part does not hold it), the tables -/
def hp0 (a : Addr) (u : Option HO) (ts : List Addr) : Hp := fun b => if b ∈ ts then some (.tbl #[]) else if b = a then u else none
theorem hp0_tab {a b : Addr} {u : Option HO} {ts : List Addr} (h : b ∈ ts) : hp0 a u ts b = some (.tbl #[]) := if_pos h
theorem hp0_a {a : Addr} {u : Option HO} {ts : List Addr} (h : a ∉ ts) : hp0 a u ts a = u := by unfold hp0; rw [if_neg h, if_pos rfl]
theorem hp0_else {a b : Addr} {u : Option HO} {ts : List Addr} (h : b ∉ ts) (h2 : b ≠ a) : hp0 a u ts b = none := by unfold hp0; rw [if_neg h, if_neg h2]
structure LawIn (P : Program) (w : World) (K : PySem.W.Frag) (mg : Str → Option Value) (s1 : Shared) (ts : List Addr) (H : Hp) (base : Heap) : Prop where
  e0 : Env0 P w K mg base callerA [] s1 H
  kIn : K.In base
  glob : base.Ns mainGlobals mg
  sys : s1.heap.NoSeer → SysB base
  tabs : ∀ P ∈ ts, H P = some (.tbl #[])
  tb : ∀ c P, P ∈ ts → PySem.W.CodeHd s1.heap c P → LamX.TabB base mg c P
  only : ∀ b, H b = none ∨ b ∈ ts ∨ ∃ o xs, H b = some (.frz o (.lst xs))
section
variable {P : Program} {w : World} {K : PySem.W.Frag} {mg mb : Str → Option Value} {s1 : Shared} {a : Addr} {vs : List Value} {ns : List Int} {ts : List Addr}
theorem law_in (kin : K.In s1.heap) (gl : s1.heap.Ns mainGlobals mg) (bl : s1.heap.Ns builtinsNs mb) (bb : ∀ x : Str, x ≠ "__name__" → mb x = bootBuiltins x) (lim : s1.heap.NoLimit) (gens : s1.gens = #[])
    (tab : ∀ T ∈ ts, s1.heap.get? T = some { cls := .none, data := .fields #[] }) (noK : ∀ T ∈ ts, K.lookup T = none)
    (bmod : ∃ (bm : Addr) (ob : Obj), mg "__builtins__" = some (.ref bm) ∧ bm ≠ builtinsNs ∧ s1.heap.get? bm = some ob ∧ ob.cls = .type "module" ∧ ob.dict = some builtinsNs ∧ ob.data = .plain)
    (scr : s1.heap.get? a = some { cls := .type "list", data := .seq vs.toArray }) (intsE : IntsAre vs ns) (few : ns.length ≤ sizeLine) :
    ∃ (H : Hp) (base : Heap), LawIn P w K mg s1 ts H base ∧ SqL K H a (ns.map V.int) := by
  have rv := vals_ints intsE
  have lenV := intsE.length
  have aT : a ∉ ts := fun m => by
    have e := tab a m
    rw [scr] at e
    have e2 := congrArg Obj.data (Option.some.inj e)
    exact absurd e2 (fun z => by cases z)
  -- a heap that tracks u at a and the tables
  have main : ∀ u : Option HO, (u = none ∨ u = some (.frz { cls := .type "list", data := .seq vs.toArray } (.lst (ns.map V.int)))) → (u ≠ none → K.lookup a = none) → SqL K (hp0 a u ts) a (ns.map V.int) →
      ∃ (H : Hp) (base : Heap), LawIn P w K mg s1 ts H base ∧ SqL K H a (ns.map V.int) := fun u hu hK hS => by
    -- what is tracked is a list or a table
    have free : ∀ {b : Addr} {o : Obj}, s1.heap.get? b = some o → (∀ l n, o.data ≠ .seq l n) → o.data ≠ .fields #[] → hp0 a u ts b = none := fun {b o} e n1 n2 => by
      by_cases hb : b ∈ ts
      · rw [tab b hb] at e
        exact absurd (congrArg Obj.data (Option.some.inj e)).symm n2
      · by_cases ha : b = a
        · rw [ha, scr] at e
          exact absurd (congrArg Obj.data (Option.some.inj e)).symm (n1 _ _)
        · exact hp0_else hb ha
    have dict : ∀ {b : Addr} {o : Obj} {es : Array DictEntry} {ep : Nat}, s1.heap.get? b = some o → o.data = .dict es ep → (hidT s1.heap (hp0 a u ts)).get? b = some o := fun {b o es ep} e d =>
      hidT_get e (free e (fun _ _ z => by rw [d] at z; cases z) fun z => by rw [d] at z; cases z)
    have ns' : ∀ {b : Addr} {m : Str → Option Value}, s1.heap.Ns b m → (hidT s1.heap (hp0 a u ts)).Ns b m := fun {b m} z => by
      obtain ⟨o, es, ep, e, d, r⟩ := z
      exact ⟨o, es, ep, dict e d, d, r⟩
    have kin' : K.In (hidT s1.heap (hp0 a u ts)) := fun b o e => by
      refine hidT_get (kin b o e) ?_
      by_cases hb : b ∈ ts
      · rw [noK b hb] at e; cases e
      · by_cases ha : b = a
        · rw [ha]
          rw [hp0_a aT]
          rcases hu with hu | hu
          · exact hu
          · have := hK (by rw [hu]; simp)
            rw [ha, this] at e; cases e
        · exact hp0_else hb ha
    have hok : HOk P w (hp0 a u ts) s1.heap := fun b o e => by
      by_cases hb : b ∈ ts
      · rw [hp0_tab hb] at e; cases e
        exact tab b hb
      · by_cases ha : b = a
        · rw [ha, hp0_a aT] at e
          rcases hu with hu | hu
          · rw [hu] at e; cases e
          · rw [hu] at e; cases e
            rw [ha]
            exact ⟨scr, by rw [List.length_map]; exact few, vs, _, rv, scr⟩
        · rw [hp0_else hb ha] at e; cases e
    have md : L2.Mod K mg (hidT s1.heap (hp0 a u ts)) := ⟨kin', ns' gl, ⟨mb, ns' bl, bb⟩, by obtain ⟨mc, h1, h2⟩ := lim; exact ⟨mc, ns' h1, h2⟩⟩
    refine ⟨hp0 a u ts, hidT s1.heap (hp0 a u ts), ⟨⟨rfl, md, fun b o e => of_hidT e, Nat.le_of_eq (hidT_size _ _), True.intro, fun b hb => absurd hb (by simp [frs]), hok, .of_eq gens⟩, kin', ns' gl, fun ser => ?_, fun T hT => hp0_tab hT, fun c T hT C => ?_, fun b => ?_⟩, hS⟩
    · obtain ⟨mm, ⟨o, es, ep, e, d, _⟩, _⟩ := ser.mods
      exact ⟨o, es, ep, dict e d, d⟩
    · have eT := tab T hT
      obtain ⟨o, us, file, tf, flags, tg, inF, text, tt, e1, r1, r2, r3, r4⟩ := C
      have nd : hp0 a u ts c = none := free e1 (fun _ _ z => by rw [r2] at z; cases z) fun z => by
        rw [r2] at z
        cases z
        simp at r3
      refine ⟨⟨o, us, file, tf, flags, tg, inF, text, tt, hidT_get e1 nd, r1, r2, r3, r4⟩, ?_, fun z => ?_⟩
      · obtain ⟨bm, ob, b1, b2, b3, b4, b5, b6⟩ := bmod
        refine ⟨bm, ob, b1, b2, fun q => ?_, fun q => ?_, hidT_get b3 (free b3 (fun _ _ z => by rw [b6] at z; cases z) fun z => by rw [b6] at z; cases z), b4, b5, b6⟩
        · obtain ⟨og, es, ep, e, d, _⟩ := gl
          rw [q, e] at b3
          cases b3
          rw [d] at b6
          cases b6
        · rw [q, eT] at b3
          cases b3
          cases b6
      · obtain ⟨og, es, ep, e, d, _⟩ := gl
        rw [z, eT] at e
        cases e
        cases d
    · by_cases hb : b ∈ ts
      · exact .inr (.inl hb)
      · by_cases ha : b = a
        · rw [ha, hp0_a aT]
          rcases hu with hu | hu
          · exact .inl hu
          · exact .inr (.inr ⟨_, _, hu⟩)
        · exact .inl (hp0_else hb ha)
  cases hk : K.lookup a with
  | none =>
    refine main (some (.frz { cls := .type "list", data := .seq vs.toArray } (.lst (ns.map V.int)))) (.inr rfl) (fun _ => hk) (.inl (.inr ⟨_, hp0_a aT⟩))
  | some o =>
    have e := kin a o hk
    rw [scr] at e
    cases e
    refine main none (.inl rfl) (fun z => absurd rfl z) (.inr ⟨_, vs.toArray, _, hk, rfl, rfl, rfl, ?_, by simpa using rv⟩)
    rw [List.size_toArray, lenV]
    exact few
/-- behind the law's call: what stood ahead of it stands -/
theorem law_out {H : Hp} {base : Heap} {cs : List (Addr × Addr)} (L : LawIn P w K mg s1 ts H base) (sub : ∀ T ∈ ts, ∃ c, (c, T) ∈ cs) (C : ∀ p ∈ cs, PySem.W.CodeHd s1.heap p.1 p.2) (tab : ∀ T ∈ ts, s1.heap.get? T = some { cls := .none, data := .fields #[] })
    {CX : CXT} {E : XK} {r : Result} {s' : Shared} (noX : ∀ e, CX [] H s1 E e s' → False) (h : CR CX [] P w H s1 (fun v _ => v = .bl true) E r s') : r = .ok (.ret (.bool true)) ∧ OldK s1.heap s'.heap ∧ s'.os = s1.os ∧ AllBare s'.gens := by
  match r, h with
  | .error e, h => exact (noX e h).elim
  | .ok .next, h => exact False.elim h
  | .ok .brk, h => exact False.elim h
  | .ok .cont, h => exact False.elim h
  | .ok (.ret u), h =>
    obtain ⟨v, H', os, bare, un, hok', rv, q⟩ := h
    have q' : v = .bl true := q
    rw [q'] at rv
    cases (show u = Value.bool true from rv)
    have grown : ∀ T ∈ ts, ∃ more : Array Value, s'.heap.get? T = some { cls := .none, data := .fields more } := fun T hT => by
      obtain ⟨more, z⟩ := un.tbls T #[] (L.tabs T hT)
      exact ⟨_, hok' T _ z⟩
    have keep : ∀ b o, b ∉ ts → s1.heap.get? b = some o → s'.heap.get? b = some o := fun b o nb e => by
      rcases L.only b with z | z | ⟨ob, xs, z⟩
      · exact un.keep b o e z (fun m => absurd m (by simp [frs])) (by simp)
      · exact absurd z nb
      · obtain ⟨e1, _⟩ := L.e0.hok b _ z
        obtain ⟨e2, _⟩ := hok' b _ (un.frzs b ob _ z)
        rw [e] at e1
        cases e1
        exact e2
    refine ⟨rfl, ⟨fun b o e => ?_, fun b o e => ?_⟩, os, bare⟩
    · by_cases hb : b ∈ ts
      · obtain ⟨c, hc⟩ := sub b hb
        obtain ⟨more, hm⟩ := grown b hb
        have eb := tab b hb
        rw [eb] at e
        cases e
        exact .inr (.inl ⟨((C _ hc).tab eb).isCodeTable, rfl, #[], more, rfl, by rw [Array.empty_append]; exact hm⟩)
      · exact .inl (keep b o hb e)
    · by_cases hb : b ∈ ts
      · obtain ⟨more, hm⟩ := grown b hb
        exact ⟨_, hm⟩
      · exact ⟨o, keep b o hb e⟩
end
/-- THE END: the law's own promise, at each heap that the top leaves -/
def LawAtG (l : PySem.W.OpenLaw) (w : World) (K : PySem.W.Frag) (k n : Nat) (x : Str) (mg : Str → Option Value) (fa : Addr) (h : Heap) : Prop :=
  ∃ (fd : FuncData) (cs : List (Addr × Addr)) (sp : Sp), (∀ p ∈ cs, h.get? p.2 = some { cls := .none, data := .fields #[] }) ∧ (∀ p ∈ cs, K.lookup p.2 = none) ∧ (∀ p ∈ cs, PySem.W.CodeHd h p.1 p.2) ∧ (∀ (s : Shared) (u : Value), BindsTo s fd ⟨[u], []⟩ [(x, u)]) ∧
    (∀ (H : Hp) (a : Addr) (ns : List Int), ns.length ≤ n → (∀ p ∈ cs, H p.2 = some (.tbl #[])) → SqL K H a (ns.map V.int) → sp [.ref a] H (fun v _ => v = .bl true) fun _ _ _ => False) ∧
    ∀ base : Heap, K.In base → base.Ns mainGlobals mg → SysB base → (∀ p ∈ cs, LamX.TabB base mg p.1 p.2) → FnG l.prog w K mg base CX0 k fa fd [x] sp
theorem walk_G {l : PySem.W.OpenLaw} {n k : Nat} {q : Program} {loose : List Str} {XP : (Str → Option Value) → Heap → Prop} {YP : World → Heap → Prop} {d : DefRec} {K : Params → PySem.W.Frag} {x : Str}
    (hn : l.most = some n) (hn2 : n ≤ sizeLine) (hdf : d.params.defaults = []) (hr : Room k callerA) (hi : importsNone q = true) (hY : ∀ (w : World) (h : Heap), YP w h → (K w.params).In h)
    (F : ∀ (w : World) (mg : Str → Option Value) (fa : Addr) (h : Heap), YP w h → (K w.params).In h → h.Ns mainGlobals mg → mg d.name = some (.ref fa) → LawAtG l w (K w.params) k n x mg fa h) :
    PySem.W.WalkO q loose XP YP l.row.toRowW d [] (fun f vs => PySem.call f vs) := by
  refine Att.attach_callB hn hdf fun w s0 s1 mg mb fa o pm cd doc a vs ns G Y ho hd hcd hmg hobj hints hlen hbits hg => ?_
  obtain ⟨fd, cs, sp, hT, nT, C, hb, hsp, hF⟩ := F w mg fa _ Y (hY w _ Y) G.T.g hmg
  have tab : ∀ T ∈ cs.map (·.2), s1.heap.get? T = some { cls := .none, data := .fields #[] } := fun T m => by
    obtain ⟨p, hp, e⟩ := List.mem_map.mp m
    rw [← e]
    exact hT p hp
  obtain ⟨H, base, L, hS⟩ := law_in (P := l.prog) (w := w) (ts := cs.map (·.2)) (hY w _ Y) G.T.g G.T.b G.T.builtins G.T.nolimit hg tab (fun T m => by
    obtain ⟨p, hp, e⟩ := List.mem_map.mp m
    rw [← e]
    exact nT p hp) G.T.bmain hobj hints (Nat.le_trans hlen hn2)
  have at_ : ∀ p ∈ cs, p.2 ∈ cs.map (·.2) := fun p hp => List.mem_map.mpr ⟨p, hp, rfl⟩
  refine codeAny_mono ((hF base L.kIn L.glob (L.sys (G.T.seer hi)) fun p hp => L.tb p.1 p.2 (at_ p hp) (C p hp)).run callerA [] s1 H ⟨[.ref a], []⟩ [.ref a] [.ref a] _ _ rfl hr L.e0 (hb s1 (.ref a)) (.cons rfl .nil) (hsp H a ns hlen (fun p hp => L.tabs p.2 (at_ p hp)) hS)) fun r s' h => ?_
  exact law_out L (fun T m => by
    obtain ⟨p, hp, e⟩ := List.mem_map.mp m
    exact ⟨p.1, by rw [← e]; exact hp⟩) C tab (fun e z => z.elim) h
end Kp

set_option Elab.async false
set_option linter.all false
set_option maxRecDepth 100000
namespace Kp
open PySem PySem.Spec PyProof.Rows L2
/-! ### xs[i] op= e -/
section
variable {X : Cx}
theorem get_list : PGet X (fun x y H Q => ∃ p xs i v, x = .ref p ∧ y = .int i ∧ 0 ≤ i ∧ SqL X.K H p xs ∧ xs[i.toNat]? = some v ∧ Q v H) := by
  intro pins s σ H o i ov iv Q I ro ri h
  obtain ⟨p, xs, k, v, rfl, rfl, h0, hq, he, q⟩ := h
  cases ro
  obtain ⟨t, rfl⟩ := ri
  obtain ⟨its, r, pl, hz⟩ := I.list hq
  obtain ⟨w, ew, rw'⟩ := r.get he
  have hl := r.length
  have hlt : k.toNat < xs.length := (List.getElem?_eq_some_iff.mp he).1
  have hn := line63
  have fin : EP X pins σ Q w s := ⟨v, H, I, rw', q⟩
  exact wpAny_getItem_list (x := w) pl.isList h0 (by omega) (by simpa using ew) fin
end
/-! ### a def of the module, called by its name -/
structure Cal (P : Program) (w : World) (K : PySem.W.Frag) (mg : Str → Option Value) (base : Heap) (CX : CXT) (k : Nat) (x : Str) (ps : List Str) (sp : Sp) : Prop where
  ex : ∃ (f : Addr) (fd : FuncData), FnOk P w K mg base CX k f fd ps sp ∧ mg x = some (.ref f) ∧ PySem.W.keepIn K (.ref f) = true ∧ Binds K fd ps []
theorem Cal.mono {P : Program} {w : World} {K : PySem.W.Frag} {mg : Str → Option Value} {base : Heap} {CX : CXT} {k j : Nat} {x : Str} {ps : List Str} {sp : Sp} (C : Cal P w K mg base CX k x ps sp) (h : k ≤ j) : Cal P w K mg base CX j x ps sp := by
  obtain ⟨f, fd, F, a, b, c⟩ := C.ex
  exact ⟨f, fd, F.mono h, a, b, c⟩
structure CalG (P : Program) (w : World) (K : PySem.W.Frag) (mg : Str → Option Value) (base : Heap) (CX : CXT) (k : Nat) (x : Str) (ps : List Str) (sp : Sp) : Prop where
  ex : ∃ (f : Addr) (fd : FuncData), FnG P w K mg base CX k f fd ps sp ∧ mg x = some (.ref f) ∧ PySem.W.keepIn K (.ref f) = true ∧ Binds K fd ps []
section
variable {X : Cx} {CX : CXT} {k : Nat} {ps : List Str} {sp : Sp} {E : XK} {x : Str} {p pos : Pos} {e : Expr} {es : List Expr} {t : TA}
theorem pe_cal (C : Cal X.prog X.w X.K X.mg X.base CX k x ps sp) (hr : Room k X.A) (hx : Passes CX X E) (ha : PA X (e :: es) t) (hg : Gl X x := by rfl) (hdb : (x == ("__debug__" : Str)) = false := by decide) (he : starEach (e :: es) X.env = (false, eval e X.env) :: starEach es X.env := by rfl)
    (hpl : (backTo pos (starEach es X.env)).any (·.1) = false := by rfl) : PE X (.Call (.Name x p) (e :: es) [] pos) (tCall sp [] E t) := by
  obtain ⟨f, fd, F, hm, hk, hb⟩ := C.ex
  exact pe_call F hr hg hm hk hb .nil hx ha hdb he hpl
theorem pe_calG (gX : X.A.guards = some []) (C : CalG X.prog X.w X.K X.mg X.base CX k x ps sp) (hr : Room k X.A) (hx : Passes CX X E) (ha : PA X (e :: es) t) (hg : Gl X x := by rfl) (hdb : (x == ("__debug__" : Str)) = false := by decide)
    (he : starEach (e :: es) X.env = (false, eval e X.env) :: starEach es X.env := by rfl) (hpl : (backTo pos (starEach es X.env)).any (·.1) = false := by rfl) : PE X (.Call (.Name x p) (e :: es) [] pos) (tCall sp [] E t) := by
  obtain ⟨f, fd, F, hm, hk, hb⟩ := C.ex
  exact pe_callG gX F hr hg hm hk hb hx ha hdb he hpl
end
/-! ### what grows: G is what stands for good, H is all -/
structure Gr (W : Addr → Prop) (G H G' H' : Hp) : Prop where
  sub : Same G G'
  fz : Same G' H'
  old : ∀ a o, ¬ W a → H a = some o → H' a = some o
  new : ∀ a, H a ≠ none → G' a = G a
def W0 : Addr → Prop := fun _ => False
section
variable {W : Addr → Prop} {G H G1 H1 G2 H2 : Hp} {p : Addr} {o : HO}
theorem Gr.refl (f : Same G H) : Gr W G H G H := ⟨Same.refl G, f, fun _ _ _ h => h, fun _ _ => rfl⟩
theorem Gr.has (g : Gr W0 G H G1 H1) : Same H H1 := fun a o h => g.old a o (fun z => z) h
theorem Gr.trans (wk : ∀ a, W a → H a ≠ none → H1 a ≠ none) (a : Gr W G H G1 H1) (b : Gr W G1 H1 G2 H2) : Gr W G H G2 H2 where
  sub := a.sub.trans b.sub
  fz := b.fz
  old := fun c o n h => b.old c o n (a.old c o n h)
  new := fun c h => by
    have h1 : H1 c ≠ none := by
      by_cases w : W c
      · exact wk c w h
      · cases e : H c with
        | none => exact absurd e h
        | some o => rw [a.old c o w e]; simp
    rw [b.new c h1, a.new c h]
theorem Gr.trans0 (a : Gr W0 G H G1 H1) (b : Gr W0 G1 H1 G2 H2) : Gr W0 G H G2 H2 := a.trans (fun _ z => z.elim) b
theorem Gr.wide (a : Gr W0 G H G1 H1) : Gr W G H G1 H1 := ⟨a.sub, a.fz, fun c o _ h => a.has c o h, a.new⟩
/-- a new object that may still change -/
theorem Gr.own (f : Same G H) (n : H p = none) : Gr W G H G (upd H p o) where
  sub := Same.refl G
  fz := fun a u e => by rw [upd_ne (ne_of_none (f a u e) n)]; exact f a u e
  old := fun a u _ e => by rw [upd_ne (ne_of_none e n)]; exact e
  new := fun _ _ => rfl
/-- a new object that stands for good -/
theorem Gr.fix (f : Same G H) (n : H p = none) : Gr W G H (upd G p o) (upd H p o) where
  sub := fun a u e => by rw [upd_ne (ne_of_none (f a u e) n)]; exact e
  fz := fun a u e => by
    by_cases h : a = p
    · rw [h, upd_same] at e ⊢; exact e
    · rw [upd_ne h] at e ⊢; exact f a u e
  old := fun a u _ e => by rw [upd_ne (ne_of_none e n)]; exact e
  new := fun a h => by rw [upd_ne fun e => h (by rw [e]; exact n)]
/-- what was made anew and is not changed any more -/
theorem Gr.freeze (g : Gr W G H G1 H1) (n : H p = none) (h : H1 p = some o) : Gr W G H (upd G1 p o) H1 where
  sub := fun a u e => by
    by_cases q : a = p
    · have e1 := g.fz a u (g.sub a u e)
      rw [q, h] at e1
      rw [q, upd_same]
      exact e1
    · rw [upd_ne q]; exact g.sub a u e
  fz := fun a u e => by
    by_cases q : a = p
    · rw [q, upd_same] at e
      rw [q, h]; exact e
    · rw [upd_ne q] at e; exact g.fz a u e
  old := g.old
  new := fun a k => by rw [upd_ne fun e => k (by rw [e]; exact n)]; exact g.new a k
/-- a change of what may change -/
theorem Gr.chg (g : Gr W G H G1 H1) (n : G1 p = none) (w : W p ∨ H p = none) : Gr W G H G1 (upd H1 p o) where
  sub := g.sub
  fz := fun a u e => by rw [upd_ne fun q => by rw [q, n] at e; cases e]; exact g.fz a u e
  old := fun a u k e => by
    rw [upd_ne fun q => ?_]
    · exact g.old a u k e
    · rcases w with w | w
      · exact k (by rw [q]; exact w)
      · rw [q, w] at e; cases e
  new := g.new
end
/-! ### the bag that draws: what it draws from stands for good -/
def BagAt (G H : Hp) (b : Addr) : Prop := ∃ (l : Addr) (z0 z1 z2 : Int) (ns : List Int), H b = some (.lst [.int z0, .int z1, .int z2, .ref l]) ∧ G l = some (.lst (ns.map V.int)) ∧ 0 ≤ z0 ∧ (0 ≤ z1 ∧ z1 < 2147483647) ∧ 0 ≤ z2 ∧ (∀ n ∈ ns, 0 ≤ n) ∧ ns.length ≤ 63
theorem BagAt.up {G H G' H' : Hp} {b : Addr} (h : BagAt G H b) (g : Same G G') (e : H' b = H b) : BagAt G' H' b := by
  obtain ⟨l, z0, z1, z2, ns, h1, h2, r⟩ := h
  exact ⟨l, z0, z1, z2, ns, e.trans h1, g _ _ h2, r⟩
theorem BagAt.some {G H : Hp} {b : Addr} (h : BagAt G H b) : H b ≠ none := by
  obtain ⟨l, z0, z1, z2, ns, h1, _⟩ := h
  rw [h1]; simp
/-- the state of a def that draws: b the bag -/
structure Bs (b : Addr) (G H : Hp) : Prop where
  fz : Same G H
  bag : BagAt G H b
  gb : G b = none
theorem Bs.gr {b : Addr} {G H G' H' : Hp} (s : Bs b G H) (g : Gr (· = b) G H G' H') (h : BagAt G' H' b) : Bs b G' H' := ⟨g.fz, h, by rw [g.new b s.bag.some]; exact s.gb⟩
theorem Gr.bag0 {b : Addr} {G H G' H' : Hp} (s : BagAt G H b) (g : Gr W0 G H G' H') : BagAt G' H' b := by
  obtain ⟨l, z0, z1, z2, ns, h1, h2, r⟩ := s
  exact ⟨l, z0, z1, z2, ns, g.has _ _ h1, g.sub _ _ h2, r⟩
theorem Bs.gr0 {b : Addr} {G H G' H' : Hp} (s : Bs b G H) (g : Gr W0 G H G' H') : Bs b G' H' := s.gr g.wide (g.bag0 s.bag)
/-- a change elsewhere -/
theorem BagAt.ne {b p : Addr} {G H : Hp} {o : HO} (h : BagAt G H b) (e : b ≠ p) : BagAt G (upd H p o) b := h.up (Same.refl G) (upd_ne e)
theorem BagAt.new {b p : Addr} {G H : Hp} {o : HO} (h : BagAt G H b) (n : H p = none) : BagAt G (upd H p o) b := h.ne fun e => h.some (by rw [e]; exact n)
/-- what comes of a call that draws, of one that doesn't -/
def GoB (b : Addr) (G H : Hp) (R : Hp → Hp → V → Prop) (Q : VK) : Prop := ∀ G' H' v, Gr (· = b) G H G' H' → BagAt G' H' b → R G' H' v → Q v H'
def Go (G H : Hp) (R : Hp → Hp → V → Prop) (Q : VK) : Prop := ∀ G' H' v, Gr W0 G H G' H' → R G' H' v → Q v H'
theorem Gr.transB {b : Addr} {G H G1 H1 G2 H2 : Hp} (s : Bs b G H) (a : Gr (· = b) G H G1 H1) (h1 : BagAt G1 H1 b) (c : Gr (· = b) G1 H1 G2 H2) : Gr (· = b) G H G2 H2 :=
  a.trans (fun x e _ => by rw [show x = b from e]; exact h1.some) c
/-- data told of -/
def isD (K : PySem.W.Frag) (P : PyData → Prop) : Hp → Hp → V → Prop := fun G _ v => ∃ d, DD K G v d ∧ P d
/-- take(bag, n): one of 0 .. n - 1; nothing but the bag changes -/
def spTake : Sp := fun vs H Q _ => ∃ (b : Addr) (n : Int) (G : Hp), vs = [.ref b, .int n] ∧ Bs b G H ∧ 0 < n ∧ n < 1073741824 ∧ ∀ (i : Int) (o : HO), 0 ≤ i → i < n → Bs b G (upd H b o) → Q (.int i) (upd H b o)
theorem take_gr {b : Addr} {G H : Hp} {o : HO} (s : Bs b G H) : Gr (· = b) G H G (upd H b o) := (Gr.refl s.fz).chg s.gb (.inl rfl)
theorem none_of {G H : Hp} {p : Addr} (f : Same G H) (n : H p = none) : G p = none := by
  cases e : G p with
  | none => rfl
  | some o => rw [f _ _ e] at n; cases n
end Kp

set_option Elab.async false
set_option linter.all false
set_option maxRecDepth 100000
namespace Kp
open PySem PySem.Spec PyProof.Rows L2
def topS (i : Nat) : Stmt := PySem.Challenge.pw_answerskept_k92_pairs_of_machines.main.body.getD i (.Pass ⟨0, 0, 0, 0⟩)
/-- the built-in names that the text asks for, as they are -/
structure Bi (mg : Str → Option Value) : Prop where
  b_len : mg "len" = none
  b_int : mg "int" = none
  b_range : mg "range" = none
  b_abs : mg "abs" = none
  b_sorted : mg "sorted" = none
  b_set : mg "set" = none
  b_tuple : mg "tuple" = none
  b_list : mg "list" = none
  b_dict : mg "dict" = none
  b_repr : mg "repr" = none
  b_isinstance : mg "isinstance" = none
  b_all : mg "all" = none
  b_any : mg "any" = none
  b_bool : mg "bool" = none
  b_str : mg "str" = none
section
variable {P : Program} {w : World} {K : PySem.W.Frag} {mg : Str → Option Value} {base : Heap}
abbrev s_Ltake : Stmt := topS 25
abbrev N_Ltake : List Str := ["_law_bag_here", "_law_upto", "_law_cell", "_law_mixed_here", "_law_drawn", "_law_early", "_law_second"]
theorem sc_Ltake : FnScope N_Ltake ["_law_bag_here", "_law_upto"] (defScope s_Ltake) := ⟨rfl, rfl, rfl, by decide +kernel, rfl, by decide +kernel, by decide +kernel⟩
theorem bag_ix {H : Hp} {b : Addr} {xs : List V} (h : H b = some (.lst xs)) : SqL K H b xs := SqL.of h
theorem mod_in (x n : Int) (h : 0 < n) : 0 ≤ x % n ∧ x % n < n := ⟨Int.emod_nonneg _ (by omega), Int.emod_lt_of_pos _ h⟩
theorem ok_take {f : Addr} {fd : FuncData} (F : Fun K "_law_take" "_law_take" s_Ltake f fd) (T : Bi mg) : FnOk P w K mg base CX0 1 f fd ["_law_bag_here", "_law_upto"] spTake := by
  refine F.ok sc_Ltake (fun vs H Q E h => ?_) (fun cdv A outer s H vs Q E hr h => ?_)
  · obtain ⟨b, n, G, rfl, _⟩ := h
    rfl
  · obtain ⟨b, n, G, rfl, B, n0, n1, k⟩ := h
    obtain ⟨l, z0, z1, z2, ns, hb, hlG, h0, h1, h2, hn, hz⟩ := B.bag
    have hl := B.fz _ _ hlG
    have pos1 : (0 : Int) < 2147483647 := by decide
    -- the bag with three numbers
    have lb : l ≠ b := fun e => by rw [e, B.gb] at hlG; cases hlG
    have L : ∀ y0 y1 y2 : Int, (upd H b (.lst [.int y0, .int y1, .int y2, .ref l])) l = some (.lst (ns.map V.int)) := fun y0 y1 y2 => by rw [upd_ne lb]; exact hl
    have self : H = upd H b (.lst [.int z0, .int z1, .int z2, .ref l]) := by
      funext c
      by_cases e : c = b
      · rw [e, upd_same]; exact hb
      · rw [upd_ne e]
    have at0 : ∀ {y0 y1 y2 : Int}, SqL K (upd H b (.lst [.int y0, .int y1, .int y2, .ref l])) b [.int y0, .int y1, .int y2, .ref l] := SqL.of upd_same
    have bagOk : ∀ {y0 y1 y2 : Int}, 0 ≤ y0 → 0 ≤ y1 → y1 < 2147483647 → 0 ≤ y2 → Bs b G (upd H b (.lst [.int y0, .int y1, .int y2, .ref l])) := fun {y0 y1 y2} e0 e1 e2 e3 => ⟨(take_gr B).fz, ⟨l, y0, y1, y2, ns, upd_same, hlG, e0, ⟨e1, e2⟩, e3, hn, hz⟩, B.gb⟩
    refine ⟨_, C8.pss_cut (ps_if (pt_cmpR op_eq (pe_ix ix_list (pv 0) pe_int (fun _ _ => rfl)) pe_int (nomark _))
      (pss_cons (ps_set (i := 2) sc_Ltake.nd rfl (.inl rfl) pe_int)
      (C8.pss_cut (ps_if (pt_cmpR op_lt (pe_ix ix_list (pv 0) pe_int (fun _ _ => rfl)) (pe_callB call_len_seq (by rfl) T.b_len (by decide +kernel) (pa_cons (pe_ix ix_list (pv 0) pe_int (fun _ _ => rfl)) pa_nil)) (nomark _))
        (pss_one (ps_set (i := 2) sc_Ltake.nd rfl (.inl rfl) (pe_ix ix_list (pe_ix ix_list (pv 0) pe_int (fun _ _ => rfl)) (pe_ix ix_list (pv 0) pe_int (fun _ _ => rfl)) (fun _ _ => rfl))))
        pss_nil)
      (pss_cons (ps_augS (pv 0) pe_int get_list pe_int ip_add set_list)
      (C8.pss_cut (ps_if (pt_cmpR op_ge (pv 2) pe_int (nomark _))
        (pss_one (ps_asg (pv 2) (pg_sub (pv 0) pe_int set_list)))
        pss_nil)
      (pss_cons (ps_set (i := 3) sc_Ltake.nd rfl (.inl rfl) (pe_op op_add (pe_op op_add (pe_op op_mul (pe_ix ix_list (pv 0) pe_int (fun _ _ => rfl)) pe_int) (pe_op op_mod (pe_callTy call_int1 (by rfl) T.b_int (by decide +kernel) (pa_cons (pv 2) pa_nil)) pe_int)) (pe_op op_mul pe_int (pe_ix ix_list (pv 0) pe_int (fun _ _ => rfl)))))
      (pss_one (ps_asg (pe_op op_mod (pe_callTy call_int1 (by rfl) T.b_int (by decide +kernel) (pa_cons (pv 3) pa_nil)) pe_int) (pg_sub (pv 0) pe_int set_list))))))))
      pss_nil)
    (pss_cons (ps_if (pt_cmpR op_gt (pe_ix ix_list (pv 0) pe_int (fun _ _ => rfl)) pe_int (nomark _))
      (pss_cons (ps_set (i := 4) sc_Ltake.nd rfl (.inl rfl) (pe_op op_mod (pe_callTy call_int1 (by rfl) T.b_int (by decide +kernel) (pa_cons (pe_ix ix_list (pv 0) pe_int (fun _ _ => rfl)) pa_nil)) (pv 1)))
      (pss_cons (ps_asg (pe_op op_fdivN (pe_callTy call_int1 (by rfl) T.b_int (by decide +kernel) (pa_cons (pe_ix ix_list (pv 0) pe_int (fun _ _ => rfl)) pa_nil)) (pv 1)) (pg_sub (pv 0) pe_int set_list))
      (pss_one (ps_ret (pv 4)))))
      pss_nil)
    (pss_cons (ps_set (i := 5) sc_Ltake.nd rfl (.inl rfl) (pe_op op_mod (pe_callTy call_int1 (by rfl) T.b_int (by decide +kernel) (pa_cons (pe_op op_mul (pe_op op_add (pe_ix ix_list (pv 0) pe_int (fun _ _ => rfl)) pe_int) pe_int) pa_nil)) pe_int))
    (pss_cons (ps_set (i := 6) sc_Ltake.nd rfl (.inl rfl) (pe_op op_mod (pe_callTy call_int1 (by rfl) T.b_int (by decide +kernel) (pa_cons (pe_op op_mul (pe_op op_mod (pe_callTy call_int1 (by rfl) T.b_int (by decide +kernel) (pa_cons (pe_op op_mul (pv 5) (pv 5)) pa_nil)) pe_int) pe_int) pa_nil)) pe_int))
    (pss_one (ps_ret (pe_op op_mod (pe_callTy call_int1 (by rfl) T.b_int (by decide +kernel) (pa_cons (pe_op op_fdivN (pv 6) pe_int) pa_nil)) (pv 1))))))), ?_⟩
    refine ⟨fun σ' H' => ∃ (y0 y1 y2 : Int) (c2 c3 : Option V), σ' = [some (.ref b), some (.int n), c2, c3, none, none, none] ∧ H' = upd H b (.lst [.int y0, .int y1, .int y2, .ref l]) ∧ 0 ≤ y0 ∧ 0 ≤ y1 ∧ y1 < 2147483647 ∧ 0 ≤ y2, ?_, ?_⟩
    · refine ⟨_, rfl, b, _, 0, _, rfl, rfl, SqL.of hb, rfl, rfl, _, rfl, ite2 (fun _ => ?_) (fun _ => ⟨z0, z1, z2, none, none, rfl, self, h0, h1.1, h1.2, h2⟩)⟩
      -- cell
      refine ⟨fun σ' H' => ∃ c : Int, 0 ≤ c ∧ σ' = [some (.ref b), some (.int n), some (.int c), none, none, none, none] ∧ H = H', ?_, ?_⟩
      · refine ⟨_, rfl, b, _, 2, _, rfl, rfl, SqL.of hb, rfl, _, rfl, b, _, 3, _, rfl, rfl, SqL.of hb, rfl, l, ns.map V.int, rfl, .inl (SqL.of hl), _, _, rfl, rfl, _, rfl, ite2 (fun c => ?_) (fun _ => ⟨0, Int.le_refl 0, rfl, rfl⟩)⟩
        have hlt : z2.toNat < ns.length := by
          have c' := of_decide_eq_true c
          rw [List.length_map] at c'
          omega
        have ez : z2 = ((z2.toNat : Nat) : Int) := by omega
        have hat : atI (ns.map V.int) z2 = some (.int (ns[z2.toNat])) := at_of ez (by rw [List.getElem?_map, List.getElem?_eq_getElem hlt]; rfl)
        refine ⟨_, rfl, b, _, 3, _, rfl, rfl, SqL.of hb, rfl, _, rfl, b, _, 2, _, rfl, rfl, SqL.of hb, rfl, l, ns.map V.int, z2, .int (ns[z2.toNat]), rfl, rfl, SqL.of hl, hat, ?_⟩
        exact ⟨_, hn _ (List.getElem_mem hlt), rfl, rfl⟩
      · rintro σ' H' ⟨c, hc, rfl, rfl⟩
        refine ⟨_, rfl, b, _, 2, _, rfl, rfl, by decide, SqL.of hb, rfl, _, _, rfl, rfl, b, _, 2, 2, rfl, rfl, hb, rfl, ?_⟩
        -- a great cell is kept
        refine ⟨fun σ' H' => ∃ y0 : Int, 0 ≤ y0 ∧ σ' = [some (.ref b), some (.int n), some (.int c), none, none, none, none] ∧ H' = upd H b (.lst [.int y0, .int z1, .int (z2 + 1), .ref l]), ?_, ?_⟩
        · refine ⟨_, rfl, _, _, rfl, rfl, _, rfl, ite2 (fun _ => ?_) (fun _ => ⟨z0, h0, rfl, rfl⟩)⟩
          exact ⟨_, rfl, _, rfl, b, _, 0, 0, rfl, rfl, upd_same, rfl, c, hc, rfl, upd_upd⟩
        · rintro σ' H' ⟨y0, hy, rfl, rfl⟩
          refine ⟨_, rfl, b, _, 1, _, rfl, rfl, at0 (y0 := y0) (y1 := z1) (y2 := z2 + 1), rfl, _, _, rfl, rfl, .inl ⟨by omega, by omega⟩, _, rfl, .inl ⟨_, rfl, _, _, rfl, rfl, pos1, _, _, rfl, rfl, _, rfl, b, _, 2, _, rfl, rfl, at0, rfl, _, _, rfl, rfl, .inl ⟨by decide, by decide⟩, _, _, rfl, rfl, ?_⟩⟩
          refine ⟨_, rfl, .inl ⟨_, rfl, _, _, rfl, rfl, pos1, _, rfl, b, _, 1, 1, rfl, rfl, upd_same, rfl, ?_⟩⟩
          have m := mod_in (z1 * 48271 + c % 2147483647 + 7919 * (z2 + 1)) 2147483647 (by decide)
          exact ⟨y0, _, z2 + 1, _, _, rfl, upd_upd, hy, m.1, m.2, by omega⟩
    · rintro σ' H' ⟨y0, y1, y2, c2, c3, rfl, rfl, e0, e1, e2, e3⟩
      have n30 : n ≠ 0 ∧ n.natAbs < 1073741824 := ⟨by omega, by omega⟩
      refine ⟨_, rfl, b, _, 0, _, rfl, rfl, at0, rfl, _, _, rfl, rfl, _, rfl, ite2 (fun c => ?_) (fun _ => ?_)⟩
      · have y0n : 0 ≤ y0 := e0
        refine ⟨_, rfl, b, _, 0, _, rfl, rfl, at0, rfl, .inl ⟨_, rfl, _, rfl, _, _, rfl, rfl, n0, ?_⟩⟩
        refine ⟨_, rfl, b, _, 0, _, rfl, rfl, at0, rfl, .inl ⟨_, rfl, _, rfl, _, _, rfl, rfl, n30, _, rfl, b, _, 0, 0, rfl, rfl, upd_same, rfl, _, rfl, ?_⟩⟩
        have m := mod_in y0 n n0
        rw [upd_upd]
        refine k _ _ m.1 m.2 (bagOk ?_ e1 e2 e3)
        rw [Int.fdiv_eq_ediv_of_nonneg y0 (by omega)]
        exact Int.ediv_nonneg e0 (by omega)
      · refine ⟨_, rfl, b, _, 1, _, rfl, rfl, at0, rfl, _, _, rfl, rfl, _, _, rfl, rfl, .inl ⟨by omega, by omega⟩, .inl ⟨_, rfl, _, _, rfl, rfl, (by show (0 : Int) < _; decide), ?_⟩⟩
        have m1 := mod_in ((y1 + 1) * 39373) 1000000007 (by decide)
        refine ⟨_, rfl, _, rfl, _, _, rfl, rfl, .inl ⟨by omega, by omega⟩, .inl ⟨_, rfl, _, _, rfl, rfl, (by show (0 : Int) < _; decide), ?_⟩⟩
        have m2 := mod_in ((y1 + 1) * 39373 % 1000000007 * ((y1 + 1) * 39373 % 1000000007)) 998244353 (by decide)
        refine ⟨_, _, rfl, rfl, .inl ⟨by omega, by omega⟩, .inl ⟨_, rfl, _, _, rfl, rfl, (by show (0 : Int) < _; decide), ?_⟩⟩
        refine ⟨_, rfl, _, _, rfl, rfl, ⟨by decide, by decide⟩, .inl ⟨_, rfl, _, rfl, _, _, rfl, rfl, n0, ?_⟩⟩
        exact k _ _ (mod_in _ n n0).1 (mod_in _ n n0).2 (bagOk e0 e1 e2 e3)
end
end Kp

set_option Elab.async false
set_option linter.all false
set_option maxRecDepth 100000
namespace Kp
open PySem PySem.Spec PyProof.Rows L2
abbrev p_take : List Str := ["_law_bag_here", "_law_upto"]
abbrev CTake (P : Program) (w : World) (K : PySem.W.Frag) (mg : Str → Option Value) (base : Heap) : Prop := Cal P w K mg base CX0 1 "_law_take" p_take spTake
/-- one(bag, some) -/
def spOne (K : PySem.W.Frag) : Sp := fun vs H Q _ => ∃ (b a : Addr) (G : Hp) (xs : List V), vs = [.ref b, .ref a] ∧ Bs b G H ∧ SqL K H a xs ∧ a ≠ b ∧ 0 < xs.length ∧ xs.length < 1000000 ∧ ∀ (i : Nat) (v : V) (o : HO), xs[i]? = some v → Bs b G (upd H b o) → Q v (upd H b o)
/-- mixed(bag, items) -/
def spMixed (K : PySem.W.Frag) : Sp := fun vs H Q _ => ∃ (b a : Addr) (G : Hp) (xs : List V), vs = [.ref b, .ref a] ∧ Bs b G H ∧ SqL K G a xs ∧ xs.length < 1000000 ∧ GoB b G H (fun G' H' v => ∃ p ys, v = .ref p ∧ ys.Perm xs ∧ H p = none ∧ G' = G ∧ H' p = some (.lst ys)) Q
/-- a list's place, elsewhere changed -/
theorem sq_ne {K : PySem.W.Frag} {H : Hp} {a b : Addr} {xs : List V} {o : HO} (h : SqL K H a xs) (e : a ≠ b) : SqL K (upd H b o) a xs := by
  rcases h with (h | ⟨o', h⟩) | h
  · exact .inl (.inl (by rw [upd_ne e]; exact h))
  · exact .inl (.inr ⟨o', by rw [upd_ne e]; exact h⟩)
  · exact .inr h
section
variable {P : Program} {w : World} {K : PySem.W.Frag} {mg : Str → Option Value} {base : Heap}
abbrev s_Lone : Stmt := topS 26
abbrev N_Lone : List Str := ["_law_bag_here", "_law_some"]
theorem sc_Lone : FnScope N_Lone ["_law_bag_here", "_law_some"] (defScope s_Lone) := ⟨rfl, rfl, rfl, by decide +kernel, rfl, by decide +kernel, by decide +kernel⟩
theorem atI_in {xs : List V} {i : Int} (h0 : 0 ≤ i) (h1 : i < xs.length) : ∃ v, xs[i.toNat]? = some v ∧ atI xs i = some v := by
  have hlt : i.toNat < xs.length := by omega
  exact ⟨xs[i.toNat], List.getElem?_eq_getElem hlt, at_of (show i = ((i.toNat : Nat) : Int) by omega) (List.getElem?_eq_getElem hlt)⟩
theorem ok_one {f : Addr} {fd : FuncData} (F : Fun K "_law_one" "_law_one" s_Lone f fd) (T : Bi mg) (TK : CTake P w K mg base) : FnOk P w K mg base CX0 2 f fd ["_law_bag_here", "_law_some"] (spOne K) := by
  refine F.ok sc_Lone (fun vs H Q E h => ?_) (fun cdv A outer s H vs Q E hr h => ?_)
  · obtain ⟨b, a, G, xs, rfl, _⟩ := h
    rfl
  · obtain ⟨b, a, G, xs, rfl, B, hs, ab, n0, n1, k⟩ := h
    refine ⟨_, pss_one (ps_ret (pe_ix ix_list (pv 1) (pe_cal TK hr pass0 (pa_cons (pv 0) (pa_cons (pe_callB call_len_seq (by rfl) T.b_len (by decide +kernel) (pa_cons (pv 1) pa_nil)) pa_nil))) (fun _ _ => rfl))), ?_⟩
    refine ⟨_, rfl, _, rfl, _, rfl, a, xs, rfl, .inl hs, b, _, G, rfl, B, (by omega), (by omega), fun i o i0 i1 hb2 => ?_⟩
    obtain ⟨v, e1, e2⟩ := atI_in i0 i1
    exact ⟨a, xs, _, v, rfl, rfl, sq_ne hs ab, e2, k _ v o e1 hb2⟩
abbrev s_Lmixed : Stmt := topS 27
abbrev N_Lmixed : List Str := ["_law_bag_here", "_law_items", "_law_found", "_law_thing"]
theorem sc_Lmixed : FnScope N_Lmixed ["_law_bag_here", "_law_items"] (defScope s_Lmixed) := ⟨rfl, rfl, rfl, by decide +kernel, rfl, by decide +kernel, by decide +kernel⟩
theorem ok_mixed {f : Addr} {fd : FuncData} (F : Fun K "_law_mixed" "_law_mixed" s_Lmixed f fd) (T : Bi mg) (TK : CTake P w K mg base) : FnOk P w K mg base CX0 2 f fd ["_law_bag_here", "_law_items"] (spMixed K) := by
  refine F.ok sc_Lmixed (fun vs H Q E h => ?_) (fun cdv A outer s H vs Q E hr h => ?_)
  · obtain ⟨b, a, G, xs, rfl, _⟩ := h
    rfl
  · obtain ⟨b, a, G, xs, rfl, B, hs, n1, k⟩ := h
    refine ⟨_, (pss_cons (ps_set (i := 2) sc_Lmixed.nd rfl (.inl rfl) (pe_lst pa_nil))
    (pss_cons (ps_for PassesOwn.never rfl (pi_list (pv 1)) (pg_name (i := 3) sc_Lmixed.nd rfl (.inl rfl))
      (pss_one (ps_expr (pe_bm PySem.F.plainAttrs_list PySem.F.slot_list_insert PySem.F.type_list_insert mt_insert (pv 2) (pa_cons (pe_cal TK hr pass0 (pa_cons (pv 0) (pa_cons (pe_op op_add (pe_callB call_len_seq (by rfl) T.b_len (by decide +kernel) (pa_cons (pv 2) pa_nil)) pe_int) pa_nil))) (pa_cons (pv 3) pa_nil))))))
    (pss_one (ps_ret (pv 2))))), ?_⟩
    refine ⟨(by show 0 ≤ sizeLine; decide), fun p np => ?_⟩
    have ls := line63
    have sl : 1000000 ≤ sizeLine := by decide
    have npG := none_of B.fz np
    have bp : b ≠ p := fun e => B.bag.some (by rw [e]; exact np)
    refine ⟨_, rfl, a, rfl, ⟨xs, (Gr.own (W := (· = b)) B.fz np).fz.seq hs⟩, ?_⟩
    refine for_list (xs := xs) (fun i σ' H' => ∃ c3 ys, σ' = [some (.ref b), some (.ref a), some (.ref p), c3] ∧ Gr (· = b) G H G H' ∧ BagAt G H' b ∧ H' p = some (.lst ys) ∧ ys.Perm (xs.take i)) ⟨none, [], rfl, Gr.own B.fz np, B.bag.new np, upd_same, .refl _⟩ ?_ ?_ ?_
    · rintro i σ' H' _ ⟨c3, ys, rfl, g, _⟩
      exact g.fz.seq hs
    · rintro i x σ' H' hx ⟨c3, ys, rfl, g, hb, hp, pm⟩
      have hl := pm.length_eq
      rw [List.length_take] at hl
      have hlt := (List.getElem?_eq_some_iff.mp hx).1
      refine ⟨_, rfl, .inl ⟨rfl, _, SqL.of hp⟩, _, rfl, _, rfl, p, ys, rfl, .inl (SqL.of hp), _, _, rfl, rfl, b, _, G, rfl, ⟨g.fz, hb, B.gb⟩, (by omega), (by omega), fun j o j0 j1 hb2 => ?_⟩
      have hp2 : (upd H' b o) p = some (.lst ys) := by rw [upd_ne bp.symm]; exact hp
      have g2 : Gr (· = b) G H G (upd H' b o) := g.chg B.gb (.inl rfl)
      refine ⟨_, rfl, p, ys, j, x, rfl, rfl, hp2, (by omega), j0, (by omega), ?_⟩
      refine ⟨_, _, rfl, g2.chg npG (.inr np), hb2.bag.ne bp, upd_same, ?_⟩
      rw [show xs.take (i + 1) = xs.take i ++ [x] by rw [List.take_succ, hx]; rfl]
      refine List.Perm.trans ?_ (pm.append_right [x])
      have e := List.take_append_drop j.toNat ys
      rw [List.append_assoc]
      refine List.perm_middle.trans ?_
      show (x :: (List.take j.toNat ys ++ List.drop j.toNat ys)).Perm (ys ++ [x])
      rw [e]
      exact List.perm_append_comm (l₁ := [x])
    · rintro σ' H' ⟨c3, ys, rfl, g, hb, hp, pm⟩
      rw [List.take_length] at pm
      exact ⟨_, rfl, k G H' _ g hb ⟨p, ys, rfl, pm, np, rfl, hp⟩⟩
end
end Kp

set_option Elab.async false
set_option linter.all false
set_option maxRecDepth 100000
namespace Kp
open PySem PySem.Spec PyProof.Rows L2
/-! ### types of data -/
def tyD : PyData → String
  | .none => "NoneType" | .bool _ => "bool" | .int _ => "int" | .str _ => "str" | .list _ => "list" | .tuple _ => "tuple" | .dict _ => "dict"
def isInt : PyData → Bool | .bool _ => true | .int _ => true | _ => false
def isBool : PyData → Bool | .bool _ => true | _ => false
def isStr : PyData → Bool | .str _ => true | _ => false
def isList : PyData → Bool | .list _ => true | _ => false
def isTup : PyData → Bool | .tuple _ => true | _ => false
def isDict : PyData → Bool | .dict _ => true | _ => false
/-- a whole number that is no truth -/
def isWhole : PyData → Bool | .int _ => true | _ => false
theorem kit_int : ∀ d : PyData, kitB (tyD d) "int" = some (isInt d)
  | .none => (by decide +kernel : kitB "NoneType" "int" = some false)
  | .bool _ => (by decide +kernel : kitB "bool" "int" = some true)
  | .int _ => (by decide +kernel : kitB "int" "int" = some true)
  | .str _ => (by decide +kernel : kitB "str" "int" = some false)
  | .list _ => (by decide +kernel : kitB "list" "int" = some false)
  | .tuple _ => (by decide +kernel : kitB "tuple" "int" = some false)
  | .dict _ => (by decide +kernel : kitB "dict" "int" = some false)
theorem kit_bool : ∀ d : PyData, kitB (tyD d) "bool" = some (isBool d)
  | .none => (by decide +kernel : kitB "NoneType" "bool" = some false)
  | .bool _ => (by decide +kernel : kitB "bool" "bool" = some true)
  | .int _ => (by decide +kernel : kitB "int" "bool" = some false)
  | .str _ => (by decide +kernel : kitB "str" "bool" = some false)
  | .list _ => (by decide +kernel : kitB "list" "bool" = some false)
  | .tuple _ => (by decide +kernel : kitB "tuple" "bool" = some false)
  | .dict _ => (by decide +kernel : kitB "dict" "bool" = some false)
theorem kit_str : ∀ d : PyData, kitB (tyD d) "str" = some (isStr d)
  | .none => (by decide +kernel : kitB "NoneType" "str" = some false)
  | .bool _ => (by decide +kernel : kitB "bool" "str" = some false)
  | .int _ => (by decide +kernel : kitB "int" "str" = some false)
  | .str _ => (by decide +kernel : kitB "str" "str" = some true)
  | .list _ => (by decide +kernel : kitB "list" "str" = some false)
  | .tuple _ => (by decide +kernel : kitB "tuple" "str" = some false)
  | .dict _ => (by decide +kernel : kitB "dict" "str" = some false)
theorem kit_list : ∀ d : PyData, kitB (tyD d) "list" = some (isList d)
  | .none => (by decide +kernel : kitB "NoneType" "list" = some false)
  | .bool _ => (by decide +kernel : kitB "bool" "list" = some false)
  | .int _ => (by decide +kernel : kitB "int" "list" = some false)
  | .str _ => (by decide +kernel : kitB "str" "list" = some false)
  | .list _ => (by decide +kernel : kitB "list" "list" = some true)
  | .tuple _ => (by decide +kernel : kitB "tuple" "list" = some false)
  | .dict _ => (by decide +kernel : kitB "dict" "list" = some false)
theorem kit_tup : ∀ d : PyData, kitB (tyD d) "tuple" = some (isTup d)
  | .none => (by decide +kernel : kitB "NoneType" "tuple" = some false)
  | .bool _ => (by decide +kernel : kitB "bool" "tuple" = some false)
  | .int _ => (by decide +kernel : kitB "int" "tuple" = some false)
  | .str _ => (by decide +kernel : kitB "str" "tuple" = some false)
  | .list _ => (by decide +kernel : kitB "list" "tuple" = some false)
  | .tuple _ => (by decide +kernel : kitB "tuple" "tuple" = some true)
  | .dict _ => (by decide +kernel : kitB "dict" "tuple" = some false)
theorem kit_dict : ∀ d : PyData, kitB (tyD d) "dict" = some (isDict d)
  | .none => (by decide +kernel : kitB "NoneType" "dict" = some false)
  | .bool _ => (by decide +kernel : kitB "bool" "dict" = some false)
  | .int _ => (by decide +kernel : kitB "int" "dict" = some false)
  | .str _ => (by decide +kernel : kitB "str" "dict" = some false)
  | .list _ => (by decide +kernel : kitB "list" "dict" = some false)
  | .tuple _ => (by decide +kernel : kitB "tuple" "dict" = some false)
  | .dict _ => (by decide +kernel : kitB "dict" "dict" = some true)
section
variable {K : PySem.W.Frag} {H : Hp}
theorem tyx_list {a : Addr} {xs : List V} (h : SqL K H a xs) : TyX K H (.ref a) (.type "list") := by
  rcases h with (h | ⟨o, h⟩) | ⟨o, its, n, e, c, _⟩
  · exact .base (.lst h)
  · exact .base (.frz h)
  · exact .kList e c
theorem tyx_tup {a : Addr} {xs : List V} (h : SqT K H a xs) : TyX K H (.ref a) (.type "tuple") := by
  rcases h with (h | ⟨o, h⟩) | ⟨o, its, n, e, c, _⟩
  · exact .base (.tup h)
  · exact .fTuple h
  · exact .kTuple e c
theorem tyx_dict {a : Addr} {kvs : List (Key × V)} (h : Rd H a (.dK kvs)) : TyX K H (.ref a) (.type "dict") := by
  rcases h with h | ⟨o, h⟩
  · exact .base (.dK h)
  · exact .fDict h
theorem DD.tyx {v : V} {d : PyData} (h : DD K H v d) : TyX K H v (.type (tyD d)) := by
  cases h with
  | non => exact .base .non
  | bl b => exact .base (.bl b)
  | int i => exact .base (.int i)
  | str x => exact .base (.str x)
  | lst h _ => exact tyx_list h
  | tup h _ => exact tyx_tup h
  | dic h _ _ => exact .base (.dK h)
  | dit h _ _ => exact .base (.dT h)
/-- isinstance(x, T), x data, T a built-in class -/
theorem isi_d {v : V} {d : PyData} {n : String} {b : Bool} {Q : VK} (h : DD K H v d) (e : kitB (tyD d) n = some b) (q : Q (.bl b) H) : rIsi K [v, .ty n] H Q := ⟨v, .ty n, .type (tyD d), .type n, b, rfl, .ty n, h.tyx, kit_ty e, q⟩
end
section
variable {X : Cx}
/-- isinstance(x, T), x an instance of a class with slots, T a class -/
def rIsiS (K : PySem.W.Frag) : List V → Hp → VK → Prop := fun xs H Q => ∃ (a C dx : Addr) (vs : List (Option V)) (c : V) (u : Value) (b : Bool), xs = [.ref a, c] ∧ SlX.Slt H a C dx vs ∧ ClsV c u ∧ Cls K C ∧ PySem.W.findIn K (.ref C) "__class__" = some (some (.builtin "object.__class__")) ∧
  PySem.W.specialIn K (.builtin "object.__class__") "__get__" = some (some (.builtin "getset_descriptor.__get__")) ∧ PySem.W.takesIn K (.builtin "object.__class__") = some true ∧ PySem.W.mroIn K C (.type "object") = some true ∧ PySem.W.kitOne K (.ref C) u = some b ∧ Q (.bl b) H
theorem call_isiS : CallR X (.builtin "isinstance") (rIsiS X.K) := by
  intro pins s σ H xs us Q I r h
  obtain ⟨a, C, dx, vs, c, u, b, rfl, h, k, cl, ha, hn, htk, hm, e, q⟩ := h
  obtain ⟨u1, u2, rfl, r1, r2⟩ := vals2 r
  have e2 := k.eq r2
  subst e2
  cases (show u1 = Value.ref a from r1)
  obtain ⟨sl, od, _, J, _⟩ := SlX.slt_inst I h
  exact PySem.W.kia_one (PySem.W.kitx_own (cl.get _) cl.hd ha hn htk hm) I.kIn J e (fun z => nomatch z) fun tk => ⟨.bl b, H, I.tok tk, rfl, q⟩
end
/-! ### what is pure -/
theorem Gr.pure {W : Addr → Prop} {G H H' : Hp} (f : Same G H) (e : Same H H') : Gr W G H G H' := ⟨Same.refl G, f.trans e, fun a o _ h => e a o h, fun _ _ => rfl⟩
theorem same_chg {H H' : Hp} {p : Addr} {o : HO} (e : Same H H') (n : H p = none) : Same H (upd H' p o) := fun a u h => by rw [upd_ne (ne_of_none h n)]; exact e a u h
theorem same_new {H : Hp} {p : Addr} {o : HO} (n : H p = none) : Same H (upd H p o) := same_chg (Same.refl H) n
def Free : Hp := fun _ => none
theorem free_same {H : Hp} : Same Free H := fun _ _ h => by cases h
end Kp

set_option Elab.async false
set_option linter.all false
set_option maxRecDepth 100000
namespace Kp
open PySem PySem.Spec PyProof.Rows L2
/-! ### what is met, each once -/
section
variable {α : Type} [DecidableEq α]
def met1 (acc : List α) (k : α) : List α := if k ∈ acc then acc else acc ++ [k]
def met (l : List α) : List α := l.foldl met1 []
theorem nodup_le : ∀ {l m : List α}, l.Nodup → (∀ x ∈ l, x ∈ m) → l.length ≤ m.length
  | [], _, _, _ => Nat.zero_le _
  | x :: l, m, h, s => by
    have hx := s x List.mem_cons_self
    have n := List.nodup_cons.mp h
    have := nodup_le (m := m.erase x) n.2 fun y hy => (List.mem_erase_of_ne fun z => n.1 (by rw [← z]; exact hy)).mpr (s y (List.mem_cons_of_mem _ hy))
    rw [List.length_erase_of_mem hx] at this
    have : 0 < m.length := List.length_pos_of_mem hx
    simp only [List.length_cons]
    omega
theorem nodup_perm : ∀ {l m : List α}, l.Nodup → (∀ x ∈ l, x ∈ m) → m.length ≤ l.length → m.Perm l
  | [], m, _, _, e => by
    have z : m = [] := List.eq_nil_of_length_eq_zero (by simpa using e)
    rw [z]
  | x :: l, m, h, s, e => by
    have hx := s x List.mem_cons_self
    have n := List.nodup_cons.mp h
    have p := nodup_perm (m := m.erase x) n.2 (fun y hy => (List.mem_erase_of_ne fun z => n.1 (by rw [← z]; exact hy)).mpr (s y (List.mem_cons_of_mem _ hy))) (by
      rw [List.length_erase_of_mem hx]
      simp only [List.length_cons] at e
      omega)
    exact (List.perm_cons_erase hx).trans (p.cons x)
theorem snoc_of {l : List α} {n : Nat} (e : l.length = n + 1) : ∃ q x, l = q ++ [x] ∧ q.length = n := by
  have h : l ≠ [] := by intro z; rw [z] at e; cases e
  refine ⟨l.dropLast, l.getLast h, (List.dropLast_concat_getLast h).symm, ?_⟩
  rw [List.length_dropLast]; omega
def inM (l : List α) (k : α) : Bool := decide (k ∈ l)
theorem met_snoc (l : List α) (k : α) : met (l ++ [k]) = met1 (met l) k := by unfold met; rw [List.foldl_append]; rfl
theorem met_mem (l : List α) : ∀ k, k ∈ met l ↔ k ∈ l := by
  suffices h : ∀ (n : Nat) (r : List α), r.length = n → ∀ k, k ∈ met r ↔ k ∈ r from h _ l rfl
  intro n
  induction n with
  | zero => intro r e k; rw [List.eq_nil_of_length_eq_zero e]; exact Iff.rfl
  | succ n ih =>
    intro r e k
    obtain ⟨q, x, rfl, e2⟩ := snoc_of e
    have hq := ih q e2
    rw [met_snoc]
    unfold met1
    by_cases c : x ∈ met q
    · rw [if_pos c, hq]
      constructor
      · intro h; exact List.mem_append_left _ h
      · intro h
        rcases List.mem_append.mp h with h | h
        · exact h
        · rw [List.mem_singleton.mp h]; exact (hq x).mp c
    · rw [if_neg c, List.mem_append, List.mem_append, hq]
theorem met_nodup (l : List α) : (met l).Nodup := by
  suffices h : ∀ (n : Nat) (r : List α), r.length = n → (met r).Nodup from h _ l rfl
  intro n
  induction n with
  | zero => intro r e; rw [List.eq_nil_of_length_eq_zero e]; exact List.nodup_nil
  | succ n ih =>
    intro r e
    obtain ⟨q, x, rfl, e2⟩ := snoc_of e
    have hq := ih q e2
    rw [met_snoc]
    unfold met1
    by_cases c : x ∈ met q
    · rw [if_pos c]; exact hq
    · rw [if_neg c]
      rw [List.nodup_append]
      refine ⟨hq, by simp, fun a ha b hb => ?_⟩
      rw [List.mem_singleton.mp hb]
      intro z
      rw [z] at ha
      exact c ha
theorem met_length_le (l : List α) : (met l).length ≤ l.length := nodup_le (met_nodup l) fun x hx => (met_mem l x).mp hx
theorem met_id {l : List α} (h : l.Nodup) : (met l).length = l.length := Nat.le_antisymm (met_length_le l) (nodup_le h fun x hx => (met_mem l x).mpr hx)
theorem met_eq_iff {l : List α} : (met l).length = l.length ↔ l.Nodup := by
  refine ⟨fun e => ?_, met_id⟩
  have p := nodup_perm (met_nodup l) (fun x hx => (met_mem l x).mp hx) (by omega)
  exact p.nodup_iff.mpr (met_nodup l)
end
section
variable {P : Program} {w : World} {κ : Type} [DecidableEq κ] {knd : PySem.KeyKind P w κ} {A : Around} {E : Value → Shared → Prop}
theorem set_stay {h h' : Heap} {S : Addr} {f : κ → Bool} {n : Nat} (R : h.SetOf knd S f n) (k : ∀ o, h.get? S = some o → h'.get? S = some o) : h'.SetOf knd S f n := by
  obtain ⟨o, es, ep, t, e, r⟩ := R
  exact ⟨o, es, ep, t, k o e, r⟩
/-- the keys of a list go into a set, one by one -/
theorem set_loop {I : Addr} {fp wr : List Addr} {G : Array GenState → Array GenState → Prop} {n : Nat} {Pv : Nat → Value → Prop} {St : Nat → Shared → Prop} {R : Result → Shared → Prop}
    (W : WalksS P w A.in1 I fp wr G n Pv St) (S : Addr) (hSf : S ∉ fp) (ks : List κ) (hl : ks.length = n) (hb : n + 1 < scanBound)
    (hval : ∀ i v, Pv i v → ∃ k, ks[i]? = some k ∧ knd.is k v = true ∧ v.scannable = true) :
    ∀ (m i : Nat) (s : Shared), n - i = m → i ≤ n → St i s → s.heap.SetOf knd S (inM (met (ks.take i))) (met (ks.take i)).length →
      (∀ s', Moved (S :: wr) G s s' → s'.heap.SetOf knd S (inM (met ks)) (met ks).length → R (.ok (.ret .none)) s') →
      codeAny (model P w) A (.builtin "set.update.loop" ⟨[.ref S, .ref I], []⟩) R s := by
  have away : S ∉ wr := fun z => hSf (W.sub _ z)
  have wide : ∀ b ∈ wr, b ∈ S :: wr := fun _ z => .tail _ z
  intro m
  induction m with
  | zero =>
    intro i s hm hi st hS hR
    obtain rfl : i = n := by omega
    refine codeAny_builtin PyProof.Rows.F.entry_set_update_loop ?_
    rw [Around.under_plainId PyProof.Rows.F.plain_set_update_loop _]
    refine wpAny_bind (m := pyNext (.ref I)) (W.done s _ _ st fun s' mv => ?_)
    refine wpAny_pure (hR s' (mv.mono wide) ?_)
    rw [← hl, List.take_length] at hS
    exact set_stay hS fun o e => mv.heap S o away e
  | succ m ih =>
    intro i s hm hi st hS hR
    refine codeAny_builtin PyProof.Rows.F.entry_set_update_loop ?_
    rw [Around.under_plainId PyProof.Rows.F.plain_set_update_loop _]
    refine wpAny_bind (m := pyNext (.ref I)) (W.item i s _ _ (by omega) st fun v s' hP st' mv => ?_)
    obtain ⟨k, ek, kk, kc⟩ := hval i v hP
    have hS' := set_stay hS fun o e => mv.heap S o away e
    show wpAny _ A.in1 (holding [v] (setAdd S v) >>= _) _ _ s'
    refine wpAny_bind (wpAny_holding ?_)
    unfold setAdd
    refine wpAny_holding (wpAny_bind (knd.pyHash kk ?_))
    have few := met_length_le (ks.take i)
    rw [List.length_take] at few
    refine wpAny_setAddHashed_of (s := { s' with toks := s'.toks + 1 }) kk kc hS' (by omega) fun h' sb hS2 => ?_
    have one : ks.take (i + 1) = ks.take i ++ [k] := by rw [List.take_succ, ek]; rfl
    have hS3 : h'.SetOf knd S (inM (met (ks.take (i + 1)))) (met (ks.take (i + 1))).length := by
      rw [one, met_snoc]
      refine PyProof.Rows.SetOf_congr hS2 (fun k' => ?_) ?_
      · show (inM (met (ks.take i)) k' || decide (k' = k)) = inM (met1 (met (ks.take i)) k) k'
        unfold inM
        rw [← Bool.decide_or]
        refine decide_eq_decide.mpr ?_
        unfold met1
        by_cases c : k ∈ met (ks.take i)
        · rw [if_pos c]
          exact ⟨fun z => z.elim id fun e => e ▸ c, .inl⟩
        · rw [if_neg c, List.mem_append, List.mem_singleton]
      · unfold met1
        by_cases c : k ∈ met (ks.take i)
        · rw [if_pos c, if_pos (by unfold inM; exact decide_eq_true c)]
        · rw [if_neg c, if_neg (by unfold inM; simpa using c), List.length_append]; rfl
    refine wpAny_pure ⟨plainId_quiet PyProof.Rows.F.plain_set_update_loop _, ih (i + 1) _ (by omega) (by omega) (W.frame _ s' _ _ st' (Nat.le_succ _) fun b hb o e => ?_) hS3 fun s2 mv2 hS4 => ?_⟩
    · exact (sb.2 b fun z => hSf (z ▸ hb)).trans e
    · exact hR s2 (Moved.trans W.gtrans ((mv.mono wide).then_heap (Nat.le_succ _) fun b o hb e => (sb.2 b fun z => hb (by rw [z]; exact .head _)).trans e) mv2) hS4
/-- a set as it is laid -/
abbrev so (led : Bool) : Obj := { cls := .type "set", dict := none, data := .set #[] 0 (.fresh 0 0 led) }
set_option maxHeartbeats 3200000 in
/-- set(a list of keys): how many are in it, and which -/
theorem set_of {s : Shared} {l : Addr} {items : Array Value} (ks : List κ) {Q : Value → Shared → Prop} (hh : A.handled = none) (hl : s.heap.IsList l items)
    (hk : ∀ (i : Nat) v, items[i]? = some v → ∃ k, ks[i]? = some k ∧ knd.is k v = true ∧ v.scannable = true) (hn : ks.length = items.size) (hb : items.size + 1 < scanBound)
    (h : ∀ (h' : Heap) (tk : Nat), h'.SetOf knd s.heap.objs.size (inM (met ks)) (met ks).length → (∀ b o, s.heap.get? b = some o → h'.get? b = some o) → Q (.ref s.heap.objs.size) { s with heap := h', toks := tk }) :
    wpAny (model P w) A (call (.type "set") [.ref l]) Q E s := by
  have cs := PySem.F.called_set
  obtain ⟨c, tl, e0⟩ := cs.mro
  have e1 := cs.made
  have e2 := cs.sub
  have e3 := cs.notType
  have e4 := cs.canCreate
  have e5 := PySem.F.typeCall_set_1 (.ref l)
  have e6 := cs.init.lookup
  refine wpAny_call (codeAny_of_tree ?_)
  show wpAny _ _ (callAny (.type "set") ⟨[.ref l], []⟩) _ _ _
  refine wpAny_pure ⟨Code.quiet_builtin _ (by decide +kernel), ?_⟩
  refine codeAny_builtin PySem.F.entry_type_call ?_
  rw [Around.under_plain (weight_type_call_type "set" [.ref l] []) rfl]
  repeat (any_goals (first | assumption | wp_step))
  let fresh (led : Bool) : Shared := { s with heap := s.heap.push (so led) }
  refine codeAny_mono (code_set_new_1 (.ref l) (E := E) (Q₁ := fun v t => ∃ led, v = .ref s.heap.objs.size ∧ t = fresh led) fun led => ⟨led, rfl, rfl⟩) fun r t hr => ?_
  rcases r with e | f
  · exact hr
  cases f with
  | ret v =>
    obtain ⟨led, rfl, rfl⟩ := hr
    have at1 : (fresh led).heap.get? s.heap.objs.size = some (so led) := Heap.get?_push_size _ rfl
    have ty1 : (fresh led).TypeIs (.ref s.heap.objs.size) "set" := ⟨_, at1, rfl⟩
    have e7 := cs.init.bind (.ref s.heap.objs.size)
    repeat (any_goals (first | assumption | wp_step))
    let Rr : Value → Shared → Prop := fun v t => v = .none ∧ ∃ h' tk, t = { s with heap := h', toks := tk } ∧
      h'.SetOf knd s.heap.objs.size (inM (met ks)) (met ks).length ∧ ∀ b o, s.heap.get? b = some o → h'.get? b = some o
    refine codeAny_mono (codeAny_call_builtin (R := wants Rr E) cs.init.plain PySem.F.entry_set_init (check_set_init_1 ty1 ?_)) fun r t hr => ?_
    · obtain ⟨⟨_, od, _, osl⟩, h1, h2, n, h3⟩ := hl
      simp only at h2 h3
      subst h2 h3
      have at2 : (fresh led).heap.get? l = some { cls := .type "list", dict := od, data := .seq items n, slots := osl } := Heap.get?_push_of_some _ h1
      have f1 := PySem.F.sub_list_set
      have f2 := PySem.F.sub_list_frozenset
      have f3 : (Value.type "list" == Value.type "dict") = false := by decide
      have il : (fresh led).heap.IsList l items := ⟨_, at2, rfl, n, rfl⟩
      unfold Builtin.«set.__init__» noKeywords Builtin.Frozenset.updateFrom
      generalize ep : pyIter = PI
      wp_walk
      subst ep
      refine wpAny_pyIter_list il (wpAny_bind (wpAny_runValue ?_))
      have lt : l < s.heap.objs.size := Heap.lt_size h1
      have sz : (fresh led).heap.objs.size = s.heap.objs.size + 1 := Heap.size_push ..
      have nh : A.in1.in1.in1.handled = none := by simp [hh]
      have ne : l ≠ (fresh led).heap.objs.size := by rw [sz]; exact Nat.ne_of_lt (Nat.lt_succ_of_lt lt)
      have nf : s.heap.objs.size ∉ [(fresh led).heap.objs.size, l] := by
        rw [sz]
        simp only [List.mem_cons, List.not_mem_nil, or_false, not_or]
        exact ⟨Nat.ne_of_lt (Nat.lt_succ_self _), Nat.ne_of_gt lt⟩
      refine set_loop ((Walks.list nh _ l ne items).toS) s.heap.objs.size nf ks hn hb hk _ 0 _ rfl (Nat.zero_le _) ⟨⟨_, Heap.get?_push_size _ rfl, rfl, rfl⟩, il.push _⟩ ?_ ?_
      · exact PyProof.Rows.SetOf_congr ((PyProof.Rows.setObjOf_fresh (knd := knd) led).setOf (Heap.get?_push_of_some _ at1) (by unfold scanBound; omega)) (fun k => by simp [met, inM]) rfl
      · rintro ⟨h', g', d', tk, os⟩ mv hS
        obtain rfl : g' = s.gens := mv.gens
        obtain rfl : d' = s.drawn := mv.drawn
        obtain rfl : os = s.os := mv.os
        have k : ∀ b o, s.heap.get? b = some o → h'.get? b = some o := fun b o e => by
          have lb := Heap.lt_size e
          refine mv.heap b o ?_ (Heap.get?_push_of_some _ (Heap.get?_push_of_some _ e))
          rw [sz]
          simp only [List.mem_cons, List.not_mem_nil, or_false, not_or]
          exact ⟨Nat.ne_of_lt lb, Nat.ne_of_lt (Nat.lt_succ_of_lt lb)⟩
        show wpAny _ _ _ _ _ _
        refine wpAny_pure ?_
        show wpAny _ _ (ret Value.none) _ _ _
        exact wpAny_pure ⟨rfl, h', tk, rfl, hS, k⟩
    · rcases r with e | f
      · exact hr
      cases f with
      | ret v =>
        obtain ⟨rfl, h', tk, rfl, hS, k⟩ := hr
        repeat (any_goals (first | assumption | wp_step))
        exact h _ _ hS k
      | _ => exact hr.elim
  | _ => exact hr.elim
end
end Kp

set_option Elab.async false
set_option linter.all false
set_option maxRecDepth 100000
namespace Kp
open PySem PySem.Spec PyProof.Rows L2
section
variable {X : Cx}
theorem vals_key : ∀ {ks : List L2.Key} {us : List Value} {i : Nat} {v : Value}, Vals (ks.map kV) us → us[i]? = some v → ∃ k, ks[i]? = some k ∧ RelV (kV k) v
  | [], _, _, _, .nil, e => by simp at e
  | k :: ks, _, 0, _, .cons r _, e => by
    simp at e
    subst e
    exact ⟨k, rfl, r⟩
  | k :: ks, _, i + 1, _, .cons _ t, e => by
    obtain ⟨k', e', r⟩ := vals_key (i := i) t (by simpa using e)
    exact ⟨k', by simpa using e', r⟩
/-- set(xs), xs a list of keys -/
def rSetL (K : PySem.W.Frag) (P : Program) (w : World) : List V → Hp → VK → Prop := fun xs H Q => ∃ (l : Addr) (ks : List L2.Key), xs = [.ref l] ∧ SqL K H l (ks.map kV) ∧ ks.length < 1000 ∧ ∀ p, H p = none → Q (.ref p) (upd H p (SetK P w p (inM (met ks)) (met ks).length))
theorem call_setL (hc : X.calm = true) : CallR X (.type "set") (rSetL X.K X.prog X.w) := by
  intro pins s σ H xs us Q I r h
  obtain ⟨l, ks, rfl, hl, hn, q⟩ := h
  rw [Vals.ref1 r]
  obtain ⟨its, rv, pl, hz⟩ := I.list hl
  have hlen : ks.length = its.toArray.size := by rw [List.size_toArray, ← rv.length, List.length_map]
  have big : 1000 + 1 < scanBound := by decide +kernel
  refine set_of (knd := mixKind X.prog X.w) ks (I.ok.hd hc) pl.isList (fun i v e => ?_) hlen (by omega) fun h' tk hS k => ?_
  · obtain ⟨k, ek, rk⟩ := vals_key rv (by simpa using e)
    exact ⟨k, ek, kV_is rk, key_scan rk⟩
  · exact ⟨.ref _, upd H s.heap.objs.size (SetK X.prog X.w s.heap.objs.size _ _), I.laid (t' := tk) (fun b o e => k b o e) (Nat.le_refl _) (setK_new hS), rfl, q _ (I.hok.fresh (Nat.le_refl _))⟩
/-- len(a set of keys) -/
theorem call_lenK : CallR X (.builtin "len") (fun xs H Q => ∃ a S n, xs = [.ref a] ∧ H a = some (SetK X.prog X.w a S n) ∧ Q (.int n) H) := by
  intro pins s σ H xs us Q I r h
  obtain ⟨a, S, n, rfl, ha, q⟩ := h
  rw [Vals.ref1 r]
  obtain ⟨o, es, ep, t, ho, hex, hd, _, _, hb, hf, hn⟩ := setK_get I ha
  have big : (scanBound : Int) < 2 ^ 63 := by decide +kernel
  refine call_len_set ho hex hd hf (by omega) ⟨.int n, H, I.tok _, ⟨_, by rw [hn]⟩, q⟩
/-- len(a set of tuples of ints) -/
theorem call_lenT : CallR X (.builtin "len") (fun xs H Q => ∃ a L, xs = [.ref a] ∧ H a = some (SetTO X.prog X.w a L) ∧ ((L.map (·.2)).Nodup → Q (.int L.length) H)) := by
  intro pins s σ H xs us Q I r h
  obtain ⟨a, L, rfl, ha, q⟩ := h
  rw [Vals.ref1 r]
  have R0 : SetT0 X.prog X.w s.heap a L := (I.hok a _ ha).1
  obtain ⟨es, ep, t, ⟨o, ho, hex, hd⟩, rows, tab, nd, _, _, room, few⟩ := R0.ex
  have hz : es.size = L.length := by
    have := congrArg List.length rows
    simpa [rowsOf] using this
  have hf : t.fits es.size = true := by
    have e1 : t.place.size = L.length := by rw [tab.sz, List.length_map]
    unfold SetTable.fits SetTable.fill
    rw [hz, e1, tab.dm]
    simp
    omega
  refine call_len_set ho hex hd hf (by omega) ⟨.int L.length, H, I.tok _, ⟨_, by rw [hz]⟩, q nd⟩
end
end Kp

set_option Elab.async false
set_option linter.all false
set_option maxRecDepth 100000
namespace Kp
open PySem PySem.Spec PyProof.Rows L2 SlX
section
variable {X : Cx} {CX : CXT} {C g : Addr} {n : Nat} {sp : Sp} {E : XK}
/-- len(x), x an instance of a class with slots whose __len__ is the def at g -/
def rLenOwn (C : Addr) (sp : Sp) (E : XK) : List V → Hp → VK → Prop := fun xs H Q => ∃ a dx vs, xs = [V.ref a] ∧ Slt H a C dx vs ∧ sp [.ref a] H (fun z H' => ∃ i : Int, z = .int i ∧ 0 ≤ i ∧ i < 2 ^ 63 ∧ Q z H') E
theorem call_lenOwn (hs : PySem.W.findIn X.K (.ref C) "__len__" = some (some (.ref g))) (hf : PySem.W.isFn X.K (.ref g) = true) (F : FnR X.prog X.w X.K X.mg X.base CX n g sp) (hr : Room (n + 1) X.A) (hx : Passes CX X E) :
    CallR X (.builtin "len") (rLenOwn C sp E) := by
  intro pins s σ H xs us Q I r h
  obtain ⟨a, dx, vs, rfl, hsl, q⟩ := h
  obtain ⟨u, rfl, ru⟩ := r.one
  cases (show u = Value.ref a from ru)
  obtain ⟨sl, od, _, J, _⟩ := slt_inst I hsl
  have hr2 : Room n X.A.in1 := Room.in1 hr
  have run := wpAny_call (run_at (us := [.ref a]) (ws := [.ref a]) F hr2 I.env0.in1 hx I (.cons rfl .nil) q)
  refine Calls.call_function_entry kind_len plain_len entry_len (args_len1 _) ?_
  unfold Builtin.«len»
  refine wpAny_bind (m := oneArg "len" _) (wpAny_pure ?_)
  refine wpAny_bind (m := callSpecial? (.ref a) (Str.ofString "__len__")) (PySem.W.special_fn I.kIn J hs (beq_iff_eq.mp hf) (wpAny_mono run (fun v s' z => ?_) fun _ _ y => y))
  obtain ⟨z', H', I', rz, i, ei, i0, i1, qz⟩ := z
  subst ei
  obtain ⟨t, e⟩ := (show ∃ t, v = Value.int i t from rz)
  cases e
  refine wpAny_bind (wpAny_holding (wpAny_pure ?_))
  refine wpAny_bind (wpAny_letGo ?_)
  show wpAny _ _ (if i < 0 then _ else _) _ _ _
  rw [if_neg (by omega)]
  show wpAny _ _ (if i ≥ 2 ^ 63 then _ else _) _ _ _
  rw [if_neg (by omega)]
  exact wpAny_bind (wpAny_mkInt (wpAny_pure ⟨_, rfl, .int i, H', I'.tok _, ⟨_, rfl⟩, qz⟩))
end
end Kp

set_option Elab.async false
set_option linter.all false
set_option maxRecDepth 100000
namespace Kp
open PySem PySem.Spec PyProof.Rows L2
/-! ### rows, rules -/
abbrev Row := List (Str × (Int × Str))
def stD (p : Int × Str) : PyData := .tuple [.int p.1, .str p.2]
def rowD (r : Row) : PyData := .dict (r.map fun p => (.str p.1, stD p.2))
def rulesD (rs : List Row) : PyData := .list (rs.map rowD)
/-- the step in a row -/
def get (r : Row) (k : Str) : Int × Str := (r.lookup k).getD (0, Str.empty)
def lettersZ : Str := "abcdefghijklmnopqrstuvwxyz"
def wordsZ : List Str := ["alike", "go", "if", "no", "tell", "unlike", "with", "yes"]
def isName (x : Str) : Bool := (decide ((0 : Int) < x.length) && decide ((x.length : Int) ≤ 8)) && (!inV (.str x) (wordsZ.map V.str) && x.cps.toList.all fun c => decide (c ∈ lettersZ.cps.toList))
theorem isName_le {x : Str} (h : isName x = true) : x.length ≤ 8 := by
  unfold isName at h
  simp only [Bool.and_eq_true, decide_eq_true_eq] at h
  have := h.1.2
  omega
structure OkIns (ins : List Str) : Prop where
  ne : ins ≠ []
  few : ins.length < 64
  nd : ins.Nodup
  ok : ∀ x ∈ ins, isName x = true
structure OkRow (ins : List Str) (n : Nat) (r : Row) : Prop where
  keys : (r.map (·.1)).Perm ins
  ok : ∀ p ∈ r, 0 ≤ p.2.1 ∧ p.2.1 < n ∧ isName p.2.2 = true
structure OkRules (ins : List Str) (rs : List Row) : Prop where
  ne : rs ≠ []
  few : rs.length < 64
  ok : ∀ r ∈ rs, OkRow ins rs.length r
/-- a row by its keys in another order -/
def reord (ss : List Str) (r : Row) : Row := ss.map fun k => (k, get r k)
theorem lookup_map {ss : List Str} {f : Str → Int × Str} {k : Str} (h : k ∈ ss) : (ss.map fun k => (k, f k)).lookup k = some (f k) := by
  induction ss with
  | nil => cases h
  | cons x ss ih =>
    rw [List.map_cons, List.lookup_cons]
    by_cases e : k = x
    · subst e; simp
    · have : (k == x) = false := by simpa using e
      rw [this]
      exact ih ((List.mem_cons.mp h).resolve_left e)
theorem get_reord {ss : List Str} {r : Row} {k : Str} (h : k ∈ ss) : get (reord ss r) k = get r k := by
  unfold reord
  show (List.lookup k _).getD _ = _
  rw [lookup_map h]; rfl
theorem lookup_mem {r : Row} {k : Str} (h : k ∈ r.map (·.1)) : (k, get r k) ∈ r ∧ r.lookup k = some (get r k) := by
  induction r with
  | nil => cases h
  | cons q r ih =>
    obtain ⟨x, v⟩ := q
    by_cases e : k = x
    · subst e
      have : List.lookup k ((k, v) :: r) = some v := by rw [List.lookup_cons]; simp
      unfold get
      rw [this]
      exact ⟨List.mem_cons_self, rfl⟩
    · have e2 : (k == x) = false := by simpa using e
      have h2 := ih ((List.mem_cons.mp h).resolve_left e)
      have e3 : List.lookup k ((x, v) :: r) = r.lookup k := by rw [List.lookup_cons, e2]
      unfold get at h2 ⊢
      rw [e3]
      exact ⟨List.mem_cons_of_mem _ h2.1, h2.2⟩
theorem OkRow.get {ins : List Str} {n : Nat} {r : Row} (h : OkRow ins n r) {k : Str} (hk : k ∈ ins) : (k, Kp.get r k) ∈ r ∧ r.lookup k = some (Kp.get r k) ∧ 0 ≤ (Kp.get r k).1 ∧ (Kp.get r k).1 < n ∧ isName (Kp.get r k).2 = true := by
  obtain ⟨h1, h2⟩ := lookup_mem (h.keys.mem_iff.mpr hk)
  exact ⟨h1, h2, h.ok _ h1⟩
theorem OkRow.reord {ins ss : List Str} {n : Nat} {r : Row} (h : OkRow ins n r) (p : ss.Perm ins) : OkRow ins n (reord ss r) := by
  refine ⟨?_, fun q hq => ?_⟩
  · unfold Kp.reord
    rw [List.map_map]
    exact (show (ss.map fun k => k).Perm ins by rw [List.map_id']; exact p)
  · obtain ⟨k, hk, rfl⟩ := List.mem_map.mp hq
    exact (h.get (p.mem_iff.mp hk)).2.2
theorem OkRules.reord {ins ss : List Str} {rs : List Row} (h : OkRules ins rs) (p : ss.Perm ins) : OkRules ins (rs.map (Kp.reord ss)) := by
  refine ⟨by simpa using h.ne, by rw [List.length_map]; exact h.few, fun r hr => ?_⟩
  obtain ⟨q, hq, rfl⟩ := List.mem_map.mp hr
  rw [List.length_map]
  exact (h.ok q hq).reord p
theorem OkRow.perm {ins ss : List Str} {n : Nat} {r : Row} (h : OkRow ins n r) (p : ins.Perm ss) : OkRow ss n r := ⟨h.keys.trans p, h.ok⟩
theorem OkRules.perm {ins ss : List Str} {rs : List Row} (h : OkRules ins rs) (p : ins.Perm ss) : OkRules ss rs := ⟨h.ne, h.few, fun r hr => (h.ok r hr).perm p⟩
theorem OkIns.perm {ins ss : List Str} (h : OkIns ins) (p : ins.Perm ss) : OkIns ss :=
  ⟨fun e => h.ne (by rw [e] at p; exact p.eq_nil), by rw [← p.length_eq]; exact h.few, p.nodup_iff.mp h.nd, fun x hx => h.ok x (p.mem_iff.mpr hx)⟩
/-! ### sorted texts -/
def leS (a b : Str) : Prop := ¬ b.cps.toList < a.cps.toList
theorem leS_trans {a b c : Str} (h1 : leS a b) (h2 : leS b c) : leS a c := by
  unfold leS at *
  rw [List.not_lt] at *
  exact List.le_trans h1 h2
theorem leS_anti {a b : Str} (h1 : leS a b) (h2 : leS b a) : a = b := by
  unfold leS at *
  rw [List.not_lt] at *
  have e := List.le_antisymm h1 h2
  obtain ⟨⟨a⟩⟩ := a
  obtain ⟨⟨b⟩⟩ := b
  have e' : a = b := e
  rw [e']
theorem rising_pw : ∀ (p : Str) (l : List Str), risingS p l = true → (p :: l).Pairwise leS
  | p, [], _ => List.pairwise_singleton _ _
  | p, x :: r, h => by
    have h' : (!ltCps x.cps.toList p.cps.toList && risingS x r) = true := h
    rw [Bool.and_eq_true] at h'
    have h1 : leS p x := by
      have := h'.1
      rw [ltCps_eq] at this
      unfold leS
      simpa using this
    have ih := rising_pw x r h'.2
    refine List.pairwise_cons.mpr ⟨fun y hy => ?_, ih⟩
    rcases List.mem_cons.mp hy with e | hy
    · rw [e]; exact h1
    · exact leS_trans h1 ((List.pairwise_cons.mp ih).1 y hy)
theorem sorted_pw {l : List Str} (h : sortedS l = true) : l.Pairwise leS := by
  cases l with
  | nil => exact .nil
  | cons x r => exact rising_pw x r h
theorem sorted_eq {l m : List Str} (hl : sortedS l = true) (hm : sortedS m = true) (p : l.Perm m) : l = m :=
  p.eq_of_pairwise (fun _ _ _ _ h1 h2 => leS_anti h1 h2) (sorted_pw hl) (sorted_pw hm)
/-! ### plain data: no dicts -/
mutual
def plain : PyData → Bool
  | .dict _ => false
  | .list l => plains l
  | .tuple l => plains l
  | _ => true
def plains : List PyData → Bool
  | [] => true
  | d :: l => plain d && plains l
end
section
variable {K : PySem.W.Frag} {H : Hp}
mutual
theorem DD.dp : ∀ {v : V} {d : PyData}, DD K H v d → plain d = true → Dp K H v d
  | _, _, .non, _ => .non
  | _, _, .bl b, _ => .bl b
  | _, _, .int i, _ => .int i
  | _, _, .str x, _ => .str x
  | _, _, .lst h hs, p => .lst h (DDs.dp hs p)
  | _, _, .tup h hs, p => .tup h (DDs.dp hs p)
theorem DDs.dp : ∀ {vs : List V} {ds : List PyData}, DDs K H vs ds → plains ds = true → DpAll K H vs ds
  | _, _, .nil, _ => .nil
  | _, _, .cons h hs, p => by
    have p' := Bool.and_eq_true_iff.mp (show (plain _ && plains _) = true from p)
    exact .cons (DD.dp h p'.1) (DDs.dp hs p'.2)
end
theorem row_inv {v : V} {r : Row} (h : DD K H v (rowD r)) (ne : r ≠ []) : ∃ d kvs, v = .ref d ∧ H d = some (.dK kvs) ∧ kvs.map (·.1) = r.map (fun p => Sum.inr p.1) ∧ DDs K H (kvs.map (·.2)) (r.map fun p => stD p.2) := by
  cases h with
  | @dic a kvs _ h hk hs =>
    refine ⟨a, kvs, rfl, h, ?_, by simpa [List.map_map, Function.comp_def] using hs⟩
    have hk' : r.map (fun p => PyData.str p.1) = kvs.map fun p => keyD p.1 := by simpa [List.map_map, Function.comp_def] using hk
    clear hk hs h
    induction kvs generalizing r with
    | nil =>
      cases r with
      | nil => rfl
      | cons _ _ => cases hk'
    | cons q kvs ih =>
      cases r with
      | nil => cases hk'
      | cons p r =>
        have e := List.cons.inj hk'
        have e1 : q.1 = Sum.inr p.1 := by
          have : PyData.str p.1 = keyD q.1 := e.1
          cases hq : q.1 with
          | inl i => rw [hq] at this; cases this
          | inr x =>
            rw [hq] at this
            have : PyData.str p.1 = PyData.str x := this
            injection this with this
            rw [this]
        have e2 : kvs.map (·.1) = r.map fun p => Sum.inr p.1 := by
          cases r with
          | nil => cases kvs with
            | nil => rfl
            | cons _ _ => cases e.2
          | cons p' r' => exact ih (by simp) e.2
        rw [List.map_cons, List.map_cons, e1, e2]
  | @dit a kvs _ h hk hs =>
    exfalso
    cases r with
    | nil => exact ne rfl
    | cons p r =>
      cases kvs with
      | nil => cases hk
      | cons q kvs =>
        have e := (List.cons.inj hk).1
        cases e
end
theorem plain_strs (xs : List Str) : plains (xs.map PyData.str) = true := by
  induction xs with
  | nil => rfl
  | cons x xs ih => exact ih
theorem depth_strs (xs : List Str) : PyData.depthAll (xs.map PyData.str) = 0 := by
  induction xs with
  | nil => simp [PyData.depthAll]
  | cons x xs ih => simp [PyData.depthAll, PyData.depth, ih]
theorem noT_strs (xs : List Str) : noTs (xs.map PyData.str) = true := by
  induction xs with
  | nil => rfl
  | cons x xs ih => exact ih
theorem strOk_name {x : Str} (h : isName x = true) : PyData.strOk x = true := by
  unfold isName at h
  simp only [Bool.and_eq_true] at h
  have h2 := h.2.2
  unfold PyData.strOk
  rw [← Array.all_toList]
  rw [List.all_eq_true] at h2 ⊢
  intro c hc
  have := of_decide_eq_true (h2 c hc)
  have all : (lettersZ.cps.toList.all fun c => decide (c < 0x110000)) = true := by decide +kernel
  exact List.all_eq_true.mp all c this
theorem canLay_names {xs : List Str} (h : ∀ x ∈ xs, isName x = true) : PyData.canLayAll0 (xs.map PyData.str) = true := by
  induction xs with
  | nil => simp [PyData.canLayAll0]
  | cons x xs ih => simp [PyData.canLayAll0, PyData.canLay0, strOk_name (h x List.mem_cons_self), ih fun y hy => h y (List.mem_cons_of_mem _ hy)]
theorem shaped_names {xs : List Str} (h : ∀ x ∈ xs, isName x = true) : SeqAt.shaped (.list (xs.map PyData.str)) = true := by
  unfold SeqAt.shaped
  simp [PyData.canLay0, canLay_names h, PyData.depth, depth_strs]
theorem dd_strs {K : PySem.W.Frag} {H : Hp} {a : Addr} {xs : List Str} (h : SqL K H a (xs.map V.str)) : DD K H (.ref a) (.list (xs.map PyData.str)) := .lst h (.strs xs)
/-- a lock is taken off -/
theorem same_unlock {H H' : Hp} {d : Addr} {u x : HO} (e : Same (upd H d x) H') (h : H d = some u) : Same H (upd H' d u) := fun a o z => by
  by_cases q : a = d
  · rw [q, upd_same, ← h, ← q]; exact z
  · rw [upd_ne q]
    exact e a o (by rw [upd_ne q]; exact z)
theorem at_map {α : Type} {f : α → V} {xs : List α} {i : Nat} {v : V} (h : (xs.map f)[i]? = some v) : ∃ z, xs[i]? = some z ∧ v = f z := by
  rw [List.getElem?_map] at h
  cases e : xs[i]? with
  | none => rw [e] at h; cases h
  | some z => rw [e] at h; exact ⟨z, rfl, (Option.some.inj h).symm⟩
theorem step_inv {K : PySem.W.Frag} {H : Hp} {v : V} {p : Int × Str} (h : DD K H v (stD p)) : ∃ t, v = .ref t ∧ SqT K H t [.int p.1, .str p.2] := by
  obtain ⟨t, xs, rfl, ht, hxs⟩ := h.tuple_inv
  refine ⟨t, rfl, ?_⟩
  cases hxs with
  | cons h1 h2 =>
    cases h2 with
    | cons h2 h3 =>
      cases h3
      rw [h1.int_inv, h2.str_inv] at ht
      exact ht
theorem DD.step {K : PySem.W.Frag} {H : Hp} {t : Addr} {p : Int × Str} (h : SqT K H t [.int p.1, .str p.2]) : DD K H (.ref t) (stD p) := .tup h (.cons (.int _) (.cons (.str _) .nil))
/-- a tuple, a list while a dict is locked -/
theorem sqT_off {K : PySem.W.Frag} {H : Hp} {t d : Addr} {xs : List V} {kvs : List (L2.Key × V)} {o : HO} (h : SqT K H t xs) (hd : H d = some (.dK kvs)) : SqT K (upd H d o) t xs := by
  rcases h with (h | ⟨q, h⟩) | h
  · exact .inl (.inl (by rw [upd_ne (ne_of h hd (by intro z; cases z))]; exact h))
  · exact .inl (.inr ⟨q, by rw [upd_ne (ne_of h hd (by intro z; cases z))]; exact h⟩)
  · exact .inr h
theorem sqL_off {K : PySem.W.Frag} {H : Hp} {t d : Addr} {xs : List V} {kvs : List (L2.Key × V)} {o : HO} (h : SqL K H t xs) (hd : H d = some (.dK kvs)) : SqL K (upd H d o) t xs := by
  rcases h with (h | ⟨q, h⟩) | h
  · exact .inl (.inl (by rw [upd_ne (ne_of h hd (by intro z; cases z))]; exact h))
  · exact .inl (.inr ⟨q, by rw [upd_ne (ne_of h hd (by intro z; cases z))]; exact h⟩)
  · exact .inr h
end Kp

set_option Elab.async false
set_option linter.all false
set_option maxRecDepth 100000
namespace Kp
open PySem PySem.Spec PyProof.Rows L2 SlX
/-! ### a dict comprehension over any walk -/
theorem dc_it {J : It} {n : Nat} {G : Hp → Prop} {Y : Nat → Hp → V → Hp → Prop} (w : Walk J n G Y) {g : TG} {tt : TT} {tk tv : TE} {vs : List Nat} {σ : L2.St} {H1 : Hp} {D : Addr} {Qd : Hp → Prop}
    (Pv : Nat → Hp → Prop) (h0 : Pv 0 (upd H1 D (.dK []))) (hG : ∀ i H, i ≤ n → Pv i H → G H)
    (hs : ∀ i x H H', i < n → Pv i H → Y i H x H' → g x (wipe σ vs) H' fun σ2 H2 => wipe σ2 vs = wipe σ vs ∧ tt σ2 H2 fun b H3 =>
      if b = true then tk σ2 H3 fun y H4 => tv σ2 H4 fun z H5 => ∃ kvs k, y = kV k ∧ H5 D = some (.dK kvs) ∧ kvs.length < sizeLine ∧ Pv (i + 1) (upd H5 D (.dK (putK kvs k z)))
      else Pv (i + 1) H3)
    (hd : ∀ H, Pv n H → Qd H) :
    ∃ W : Nat → Nat → Hp → Prop, (∃ m, W 0 m (upd H1 D (.dK []))) ∧ ∀ i m H, W i m H →
      (J.stop i H ∧ Qd H) ∨ (J.go i H ∧ ∃ Nx : Hp → Prop, (∀ H', Nx H' → ∃ m', m' < m ∧ W (i + 1) m' H') ∧ ∀ x H', J.yld i H x H' → g x (wipe σ vs) H' fun σ2 H2 => wipe σ2 vs = wipe σ vs ∧ tt σ2 H2 fun b H3 =>
        if b = true then tk σ2 H3 fun y H4 => tv σ2 H4 fun z H5 => ∃ kvs k, y = kV k ∧ H5 D = some (.dK kvs) ∧ kvs.length < sizeLine ∧ Nx (upd H5 D (.dK (putK kvs k z))) else Nx H3) := by
  refine ⟨fun i m H => i ≤ n ∧ m + i = n ∧ Pv i H, ⟨n, Nat.zero_le _, rfl, h0⟩, ?_⟩
  rintro i m H ⟨hi, hm, p⟩
  have q := hG i H hi p
  rcases Nat.lt_or_ge i n with lt | ge
  · exact .inr ⟨w.goes i H lt q, Pv (i + 1), fun H' p' => ⟨m - 1, by omega, by omega, by omega, p'⟩, fun x H' y => hs i x H H' lt p (w.yields i H x H' lt q y)⟩
  · obtain rfl : i = n := by omega
    exact .inl ⟨w.stops H q, hd H p⟩
section
variable {W : Addr → Prop} {G H G1 H1 H2 : Hp} {p : Addr} {o : HO}
/-- a new object more that stands for good -/
theorem Gr.add (g : Gr W G H G1 H1) (n : H p = none) (n1 : H1 p = none) : Gr W G H (upd G1 p o) (upd H1 p o) where
  sub := g.sub.trans (same_new (none_of g.fz n1))
  fz := fun a u e => by
    by_cases q : a = p
    · rw [q, upd_same] at e ⊢; exact e
    · rw [upd_ne q] at e ⊢; exact g.fz a u e
  old := fun a u w e => by rw [upd_ne (ne_of_none e n)]; exact g.old a u w e
  new := fun a h => by rw [upd_ne fun q => h (by rw [q]; exact n)]; exact g.new a h
/-- more objects that no one looks at -/
theorem Gr.more (g : Gr W G H G1 H1) (e : Same H1 H2) : Gr W G H G1 H2 := ⟨g.sub, g.fz.trans e, fun a o w h => e a o (g.old a o w h), g.new⟩
end
theorem FnOk.r0 {P : Program} {w : World} {K : PySem.W.Frag} {mg : Str → Option Value} {base : Heap} {CX : CXT} {k : Nat} {f : Addr} {fd : FuncData} {ps : List Str} {sp : Sp} (F : FnOk P w K mg base CX k f fd ps sp) (hb : Binds K fd ps []) : FnR P w K mg base CX k f sp :=
  (F.raw hb .nil).imp fun vs H Q E h => by rw [List.append_nil]; exact h
/-- putting a key that isn't there -/
theorem putK_new {kvs : List (L2.Key × V)} {k : L2.Key} {v : V} (h : k ∉ kvs.map (·.1)) : putK kvs k v = kvs ++ [(k, v)] := by
  unfold putK
  rw [if_neg]
  intro c
  obtain ⟨p, hp, e⟩ := List.any_eq_true.mp c
  exact h (List.mem_map.mpr ⟨p, hp, of_decide_eq_true e⟩)
/-- what a key holds -/
theorem valV_row {K : PySem.W.Frag} {H : Hp} {kvs : List (L2.Key × V)} {r : Row} {k : Str} (hk : kvs.map (·.1) = r.map (fun p => Sum.inr p.1)) (hs : DDs K H (kvs.map (·.2)) (r.map fun p => stD p.2)) (h : k ∈ r.map (·.1)) :
    ∃ v, valV kvs (Sum.inr k) = some v ∧ DD K H v (stD (get r k)) := by
  induction kvs generalizing r with
  | nil =>
    cases r with
    | nil => cases h
    | cons _ _ => cases hk
  | cons q kvs ih =>
    cases r with
    | nil => cases h
    | cons p r =>
      have e := List.cons.inj hk
      have e1 : q.1 = Sum.inr p.1 := e.1
      rw [List.map_cons, List.map_cons] at hs
      cases hs with
      | cons h1 h2 =>
        by_cases c : k = p.1
        · refine ⟨q.2, ?_, ?_⟩
          · unfold valV
            rw [List.find?_cons_of_pos (by rw [e1, c]; simp)]
            rfl
          · have : get (p :: r) k = p.2 := by
              unfold get
              obtain ⟨p1, p2⟩ := p
              rw [List.lookup_cons, show (k == p1) = true by simpa using c]
              rfl
            rw [this]; exact h1
        · obtain ⟨v, h3, h4⟩ := ih e.2 h2 ((List.mem_cons.mp h).resolve_left c)
          refine ⟨v, ?_, ?_⟩
          · unfold valV at h3 ⊢
            rw [List.find?_cons_of_neg (by rw [e1]; simpa using fun z => c z.symm)]
            exact h3
          · have : get (p :: r) k = get r k := by
              unfold get
              obtain ⟨p1, p2⟩ := p
              rw [List.lookup_cons, show (k == p1) = false by simpa using c]
            rw [this]; exact h4
/-- a machine that stands: its inputs in order, its rules -/
def Ma (K : PySem.W.Frag) (C : Addr) (G : Hp) (v : V) (ss : List Str) (rs : List Row) : Prop :=
  ∃ a dx li lr, v = .ref a ∧ Slt G a C dx [some (.ref li), some (.ref lr)] ∧ SqL K G li (ss.map V.str) ∧ DD K G (.ref lr) (rulesD rs)
theorem slt_up {G H : Hp} {a C dx : Addr} {vs : List (Option V)} (e : Same G H) (h : Slt G a C dx vs) : Slt H a C dx vs := h.elim (fun h => .inl ⟨e _ _ h.1, h.2⟩) fun h => .inr ⟨e _ _ h.1, e _ _ h.2⟩
theorem Ma.up {K : PySem.W.Frag} {C : Addr} {G H : Hp} {v : V} {ss : List Str} {rs : List Row} (h : Ma K C G v ss rs) (e : Same G H) : Ma K C H v ss rs := by
  obtain ⟨a, dx, li, lr, h1, h2, h3, h4⟩ := h
  exact ⟨a, dx, li, lr, h1, slt_up e h2, e.seq h3, h4.up e⟩
/-- the class Machine -/
structure Mc (K : PySem.W.Frag) (mg : Str → Option Value) (C : Addr) : Prop where
  cls : SCls K C
  g : mg "Machine" = some (.ref C)
  s1 : ∃ p, Slot1 K C "its_inputs" p 0
  s2 : ∃ p, Slot1 K C "its_rules" p 1
end Kp

set_option Elab.async false
set_option linter.all false
set_option maxRecDepth 100000
namespace Kp
open PySem PySem.Spec PyProof.Rows L2 SlX
/-! ### rules whose reading names the written part: with K said, for use within comprehensions -/
section
variable {X : Cx} {K : PySem.W.Frag}
def rLenS (K : PySem.W.Frag) : List V → Hp → VK → Prop := fun xs H Q => ∃ p ys, xs = [.ref p] ∧ (SqL K H p ys ∨ SqT K H p ys) ∧ Q (.int ys.length) H
theorem len_k (h : X.K = K := by rfl) : CallR X (.builtin "len") (rLenS K) := by subst h; exact call_len_seq
theorem pi_listk {tg l : Expr} {tl : TE} (hl : PE X l tl) (h : X.K = K := by rfl) : PI X tg l (iList K tl) := by subst h; exact pi_list hl
theorem pi_tupk {tg l : Expr} {tl : TE} (hl : PE X l tl) (h : X.K = K := by rfl) : PI X tg l (iTup K tl) := by subst h; exact pi_tup hl
theorem ixl_k (h : X.K = K := by rfl) : IxR X (rIxL K) := by subst h; exact ix_list
theorem ixt_k (h : X.K = K := by rfl) : IxR X (rIxT K) := by subst h; exact ix_tup
theorem pe_slk {e : Expr} {f : Str} {pos : Pos} {ta : TE} (he : PE X e ta) (h : X.K = K := by rfl) (hb : attributeBase e f X.env (eval e X.env) = eval e X.env := by rfl) : PE X (.Attribute e f pos) (tSl K ta f) := by subst h; exact pe_sl he hb
theorem in_k (h : X.K = K := by rfl) : OpR X (compareOp .In) (rIn K false) := by subst h; exact op_in_seq
theorem notin_k (h : X.K = K := by rfl) : OpR X (compareOp .NotIn) (rIn K true) := by subst h; exact op_notIn_seq
theorem eqD_k (hu : X.A.units + 64 < cLine) (h : X.K = K := by rfl) : OpR X (compareOp .Eq) (rEqD K) := by subst h; exact op_eqD hu
theorem neD_k (hu : X.A.units + 64 < cLine) (h : X.K = K := by rfl) : OpR X (compareOp .NotEq) (rNeD K) := by subst h; exact op_neD hu
theorem inD_k (hu : X.A.units + 65 < cLine) (h : X.K = K := by rfl) : OpR X (compareOp .In) (rInD K) := by subst h; exact op_inD hu
theorem notinD_k (hu : X.A.units + 65 < cLine) (h : X.K = K := by rfl) : OpR X (compareOp .NotIn) (rNotInD K) := by subst h; exact op_notInD hu
theorem isi_k (h : X.K = K := by rfl) : CallR X (.builtin "isinstance") (rIsi K) := by subst h; exact call_isi
theorem slL_k (h : X.K = K := by rfl) : SlR X (rSlL K) := by subst h; exact sl_list
theorem sortS_k (h : X.K = K := by rfl) : CallR X (.builtin "sorted") (rSortedS K) := by subst h; exact cr_sortedS
theorem repr_k (gX : X.A.guards = some []) (hu : X.A.units + 64 < cLine) (sb : SysB X.base) (h : X.K = K := by rfl) : CallR X (.builtin "repr") (rRepr K) := by subst h; exact call_repr gX hu sb
end
end Kp

set_option Elab.async false
set_option linter.all false
set_option maxRecDepth 100000
namespace Kp
open PySem PySem.Spec PyProof.Rows L2
/-- the constants of the package -/
structure Gb (K : PySem.W.Frag) (mg : Str → Option Value) : Prop where
  letters : ∃ t, mg "LETTERS" = some (.str lettersZ t)
  longest : ∃ t, mg "LONGEST" = some (.int 8 t)
  words : ∃ wa, mg "WORDS" = some (.ref wa) ∧ ∀ H, SqT K H wa (wordsZ.map V.str)
/-- of data: is it a whole number -/
def spIsInteger (K : PySem.W.Frag) : Sp := fun vs H Q _ => ∃ v d, vs = [v] ∧ DD K H v d ∧ Q (.bl (isWhole d)) H
def spIsName : Sp := fun vs H Q _ => ∃ x : Str, vs = [.str x] ∧ x.length ≤ 1000 ∧ ∀ H', Same H H' → Q (.bl (isName x)) H'
section
variable {P : Program} {w : World} {K : PySem.W.Frag} {mg : Str → Option Value} {base : Heap}
abbrev s_is_integer : Stmt := topS 9
abbrev N_is_integer : List Str := ["thing"]
theorem sc_is_integer : FnScope N_is_integer ["thing"] (defScope s_is_integer) := ⟨rfl, rfl, rfl, by decide +kernel, rfl, by decide +kernel, by decide +kernel⟩
theorem ok_is_integer {f : Addr} {fd : FuncData} (F : Fun K "is_integer" "is_integer" s_is_integer f fd) (T : Bi mg) : FnOk P w K mg base CX0 1 f fd ["thing"] (spIsInteger K) := by
  refine F.ok sc_is_integer (fun vs H Q E h => ?_) (fun cdv A outer s H vs Q E hr h => ?_)
  · obtain ⟨v, d, rfl, _⟩ := h
    rfl
  · obtain ⟨v, d, rfl, hd, k⟩ := h
    refine ⟨_, (pss_one (ps_ret (pe_and (pe_callB call_isi (by rfl) T.b_isinstance (by decide +kernel) (pa_cons (pv 0) (pa_cons (pe_bltn (v := .ty "int") (by rfl) T.b_int (by decide +kernel) rfl) pa_nil))) (pe_one (pe_not (pe_callB call_isi (by rfl) T.b_isinstance (by decide +kernel) (pa_cons (pv 0) (pa_cons (pe_bltn (v := .ty "bool") (by rfl) T.b_bool (by decide +kernel) rfl) pa_nil)))))))), ?_⟩
    refine ⟨_, rfl, v, .ty "int", _, _, _, rfl, .ty "int", hd.tyx, kit_ty (kit_int d), _, rfl, ?_⟩
    refine ite2 (fun c => ⟨_, rfl, v, .ty "bool", _, _, _, rfl, .ty "bool", hd.tyx, kit_ty (kit_bool d), _, rfl, ?_⟩) fun c => ?_
    · have e : (!isBool d) = isWhole d := by cases d <;> first | rfl | cases c
      rw [e]; exact k
    · have e : false = isWhole d := by cases d <;> first | rfl | exact absurd rfl c
      rw [e]; exact k
abbrev s_is_name : Stmt := topS 10
abbrev N_is_name : List Str := ["thing", "sign"]
theorem sc_is_name : FnScope N_is_name ["thing"] (defScope s_is_name) := ⟨rfl, rfl, rfl, by decide +kernel, rfl, by decide +kernel, by decide +kernel⟩
theorem wordsFlat : (wordsZ.map V.str).all flatV = true := rfl
theorem ok_is_name {f : Addr} {fd : FuncData} (F : Fun K "is_name" "is_name" s_is_name f fd) (T : Bi mg) (G : Gb K mg) : FnOk P w K mg base CX0 1 f fd ["thing"] spIsName := by
  obtain ⟨t1, g1⟩ := G.letters
  obtain ⟨t2, g2⟩ := G.longest
  obtain ⟨wa, g3, sw⟩ := G.words
  refine F.ok sc_is_name (fun vs H Q E h => ?_) (fun cdv A outer s H vs Q E hr h => ?_)
  · obtain ⟨x, rfl, _⟩ := h
    rfl
  · obtain ⟨x, rfl, hx, k⟩ := h
    have sl : 1000 ≤ sizeLine := by decide
    refine ⟨_, (pss_cons (ps_if (PW.pt (pw_or (pt_not (pt_val (pe_callB call_isi (by rfl) T.b_isinstance (by decide +kernel) (pa_cons (pv 0) (pa_cons (pe_bltn (v := .ty "str") (by rfl) T.b_str (by decide +kernel) rfl) pa_nil))))) (pw_or (pt_not (pt_chain op_lt op_le pe_int (pe_callB call_len_str (by rfl) T.b_len (by decide +kernel) (pa_cons (pv 0) pa_nil)) (pe_glob (v := .int 8) rfl g2 ⟨_, rfl⟩))) (pw_or1 (pt_cmpR op_in_seq (pv 0) (pe_glob (v := .ref wa) rfl g3 rfl) rfl)))))
      (pss_one (ps_ret pe_bl))
      pss_nil)
    (pss_one (ps_ret (pe_callB (cr_all rfl) (by rfl) T.b_all (by decide +kernel) (pa_cons (pe_lc (own := [("sign", 1)]) (by rfl) sc_is_name.nd (pi_str (pv 0)) (blkOk_by (N := N_is_name) (sc := defScope s_is_name) (by decide +kernel)) (fun _ _ _ _ _ => (pg_name (i := 1) sc_is_name.nd rfl (.inl rfl))) (fun _ _ _ _ _ => pts_nil) (fun _ _ _ _ _ => (pe_cmpR op_in_sign (pv 1) (pe_glob (v := .str lettersZ) rfl g1 ⟨_, rfl⟩) rfl))) pa_nil))))), ?_⟩
    -- the four questions
    let b1 := decide ((0 : Int) < x.length)
    let b2 := decide ((x.length : Int) ≤ 8)
    let b3 := inV (.str x) (wordsZ.map V.str)
    have hcut : (b1 && b2) = true → b3 = false → isName x = x.cps.toList.all fun c => decide (c ∈ lettersZ.cps.toList) := fun e1 e2 => by
      unfold isName
      rw [show (decide ((0 : Int) < x.length) && decide ((x.length : Int) ≤ 8)) = true from e1, show inV (.str x) (wordsZ.map V.str) = false from e2]
      rfl
    have hno1 : (b1 && b2) = false → isName x = false := fun e => by
      unfold isName
      rw [show (decide ((0 : Int) < x.length) && decide ((x.length : Int) ≤ 8)) = false from e]
      rfl
    have hno2 : (b1 && b2) = true → b3 = true → isName x = false := fun e1 e2 => by
      unfold isName
      rw [show (decide ((0 : Int) < x.length) && decide ((x.length : Int) ≤ 8)) = true from e1, show inV (.str x) (wordsZ.map V.str) = true from e2]
      rfl
    have no : isName x = false → Q (.bl false) H := fun e => e ▸ k H (Same.refl H)
    refine ⟨_, rfl, .str x, .ty "str", _, _, _, rfl, .ty "str", (DD.str (K := K) (G := H) x).tyx, kit_ty (kit_str (.str x)), _, rfl, ?_⟩
    refine iteF ?_
    refine ⟨_, rfl, x, rfl, by omega, _, _, rfl, rfl, _, rfl, ite2 (fun c1 => ?_) fun c1 => ?_⟩
    · refine ⟨_, _, rfl, rfl, _, rfl, ite2 (fun c2 => ?_) fun c2 => ?_⟩
      · exact iteT (no (hno1 (by show (decide _ && decide _) = false; rw [c1]; simpa using c2)))
      · have c2' : decide ((x.length : Int) ≤ 8) = true := by simpa using c2
        have c12 : (b1 && b2) = true := by show (decide _ && decide _) = true; rw [c1, c2']; rfl
        refine ⟨_, rfl, wa, _, rfl, .inr (sw H), rfl, wordsFlat, _, rfl, ite2 (fun c3 => no (hno2 c12 c3)) fun c3 => ?_⟩
        have c3' : b3 = false := by simpa using c3
        rw [hcut c12 c3'] at k
        have hs : x.cps.size ≤ 1000 := hx
        refine ⟨_, rfl, x, rfl, fun D hD => ?_⟩
        refine lc_it walk_str (fun i H' => Same H H' ∧ H' D = some (.lst ((x.cps.toList.take i).map fun c => V.bl (decide (c ∈ lettersZ.cps.toList))))) ⟨same_new hD, upd_same⟩ (fun _ _ _ _ => trivial) ?_ ?_
        · rintro i v H1 H2 hi ⟨e1, e2⟩ ⟨rfl, c, hc, rfl⟩
          refine ⟨rfl, _, rfl, c, lettersZ, rfl, rfl, _, e2, ?_, ?_, ?_⟩
          · rw [List.length_map, List.length_take]; omega
          · exact same_chg e1 hD
          · rw [upd_same, show x.cps.toList.take (i + 1) = x.cps.toList.take i ++ [c] by rw [List.take_succ, Array.getElem?_toList, hc]; rfl, List.map_append]
            rfl
        · rintro H' ⟨e1, e2⟩
          rw [← Array.length_toList, List.take_length] at e2
          refine ⟨D, x.cps.toList.map fun c => decide (c ∈ lettersZ.cps.toList), rfl, SqL.of (by rw [e2, List.map_map]; rfl), ?_⟩
          rw [List.all_map]
          exact k H' e1
    · exact ⟨_, rfl, iteT (no (hno1 (by show (decide _ && decide _) = false; rw [show decide ((0:Int) < x.length) = false by simpa using c1]; rfl)))⟩
end
end Kp

set_option Elab.async false
set_option linter.all false
set_option maxRecDepth 100000
namespace Kp
open PySem PySem.Spec PyProof.Rows L2
/-! ### pairs of states -/
abbrev Pr := Int × Int
def pairD (p : Pr) : PyData := .tuple [.int p.1, .int p.2]
/-- the step of a machine -/
def stp (rs : List Row) (q : Int) (k : Str) : Int × Str := get (rs.getD q.toNat []) k
def nx (r1 r2 : List Row) (p : Pr) (k : Str) : Pr := ((stp r1 p.1 k).1, (stp r2 p.2 k).1)
def agree (r1 r2 : List Row) (p : Pr) (k : Str) : Prop := (stp r1 p.1 k).2 = (stp r2 p.2 k).2
/-- what is met side by side -/
inductive Reach (ss : List Str) (r1 r2 : List Row) : Pr → Prop
  | start : Reach ss r1 r2 (0, 0)
  | step {p : Pr} {k : Str} : Reach ss r1 r2 p → k ∈ ss → Reach ss r1 r2 (nx r1 r2 p k)
def inR (n m : Nat) (p : Pr) : Prop := (0 ≤ p.1 ∧ p.1 < n) ∧ (0 ≤ p.2 ∧ p.2 < m)
theorem OkRules.row {ins : List Str} {rs : List Row} (h : OkRules ins rs) {q : Int} (q0 : 0 ≤ q) (q1 : q < rs.length) : ∃ r, rs[q.toNat]? = some r ∧ rs.getD q.toNat [] = r ∧ OkRow ins rs.length r := by
  have lt : q.toNat < rs.length := by omega
  refine ⟨rs[q.toNat], List.getElem?_eq_getElem lt, ?_, h.ok _ (List.getElem_mem lt)⟩
  rw [List.getD_eq_getElem?_getD, List.getElem?_eq_getElem lt]; rfl
theorem OkRules.stp {ins : List Str} {rs : List Row} (h : OkRules ins rs) {q : Int} {k : Str} (q0 : 0 ≤ q) (q1 : q < rs.length) (hk : k ∈ ins) : 0 ≤ (Kp.stp rs q k).1 ∧ (Kp.stp rs q k).1 < rs.length ∧ isName (Kp.stp rs q k).2 = true := by
  obtain ⟨r, h1, h2, ok⟩ := h.row q0 q1
  unfold Kp.stp
  rw [h2]
  exact (ok.get hk).2.2
theorem nx_in {ins : List Str} {r1 r2 : List Row} (h1 : OkRules ins r1) (h2 : OkRules ins r2) {p : Pr} {k : Str} (hp : inR r1.length r2.length p) (hk : k ∈ ins) : inR r1.length r2.length (nx r1 r2 p k) := by
  have a := h1.stp hp.1.1 hp.1.2 hk
  have b := h2.stp hp.2.1 hp.2.2 hk
  exact ⟨⟨a.1, a.2.1⟩, b.1, b.2.1⟩
theorem start_in {ins : List Str} {r1 r2 : List Row} (h1 : OkRules ins r1) (h2 : OkRules ins r2) : inR r1.length r2.length (0, 0) := by
  have a := List.length_pos_iff.mpr h1.ne
  have b := List.length_pos_iff.mpr h2.ne
  refine ⟨⟨Int.le_refl _, ?_⟩, Int.le_refl _, ?_⟩ <;> (show (0 : Int) < _; omega)
theorem Reach.inR {ins : List Str} {r1 r2 : List Row} (h1 : OkRules ins r1) (h2 : OkRules ins r2) {p : Pr} (h : Reach ins r1 r2 p) : Kp.inR r1.length r2.length p := by
  induction h with
  | start => exact start_in h1 h2
  | step _ hk ih => exact nx_in h1 h2 ih hk
/-- of the same lookups the same -/
theorem stp_reord {ins ss : List Str} {rs : List Row} (h : OkRules ins rs) {q : Int} {k : Str} (q0 : 0 ≤ q) (q1 : q < rs.length) (hk : k ∈ ss) : stp (rs.map (reord ss)) q k = stp rs q k := by
  obtain ⟨r, e1, e2, _⟩ := h.row q0 q1
  unfold stp
  rw [e2, List.getD_eq_getElem?_getD, List.getElem?_map, e1]
  exact get_reord hk
/-- few pairs -/
def allP (n m : Nat) : List Pr := (List.range n).flatMap fun (i : Nat) => (List.range m).map fun (j : Nat) => ((i : Int), (j : Int))
theorem inR_mem {n m : Nat} {p : Pr} (h : inR n m p) : p ∈ allP n m := by
  unfold allP
  refine List.mem_flatMap.mpr ⟨p.1.toNat, List.mem_range.mpr (by have := h.1; omega), List.mem_map.mpr ⟨p.2.toNat, List.mem_range.mpr (by have := h.2; omega), ?_⟩⟩
  have a := h.1.1
  have b := h.2.1
  obtain ⟨x, y⟩ := p
  show (((x.toNat : Nat) : Int), ((y.toNat : Nat) : Int)) = (x, y)
  rw [Int.toNat_of_nonneg a, Int.toNat_of_nonneg b]
theorem allP_length (n m : Nat) : (allP n m).length = n * m := by
  unfold allP
  induction n with
  | zero => simp
  | succ n ih =>
    rw [List.range_succ, List.flatMap_append, List.length_append, ih, Nat.succ_mul]
    simp
theorem few_pairs {n m : Nat} {ms : List Pr} (nd : ms.Nodup) (h : ∀ p ∈ ms, inR n m p) : ms.length ≤ n * m := by
  rw [← allP_length]
  exact nodup_le nd fun p hp => inR_mem (h p hp)
/-! ### what is met, one behind another -/
structure Bfs (ss : List Str) (f : Pr → Str → Pr) (R : Pr → Prop) (good : Pr → Str → Prop) (ms : List Pr) (n : Nat) (ks : List Str) : Prop where
  nd : ms.Nodup
  st : (0, 0) ∈ ms
  rch : ∀ p ∈ ms, R p
  dn : ∀ i p, i < n → ms[i]? = some p → ∀ k ∈ ss, f p k ∈ ms ∧ good p k
  cur : ∀ p, ms[n]? = some p → ∀ k ∈ ks, f p k ∈ ms ∧ good p k
section
variable {ss ks : List Str} {f : Pr → Str → Pr} {R : Pr → Prop} {good : Pr → Str → Prop} {ms : List Pr} {n : Nat} {p : Pr} {k : Str}
theorem Bfs.zero (r : R (0, 0)) : Bfs ss f R good [(0, 0)] 0 [] := ⟨by simp, by simp, by simpa using r, fun i p h => by omega, fun _ _ k hk => by cases hk⟩
theorem Bfs.see (b : Bfs ss f R good ms n ks) (hp : ms[n]? = some p) (hm : f p k ∈ ms) (g : good p k) : Bfs ss f R good ms n (ks ++ [k]) := by
  refine ⟨b.nd, b.st, b.rch, b.dn, fun q hq k' hk' => ?_⟩
  rcases List.mem_append.mp hk' with h | h
  · exact b.cur q hq k' h
  · rw [List.mem_singleton.mp h]
    rw [hp] at hq
    cases hq
    exact ⟨hm, g⟩
theorem Bfs.new (b : Bfs ss f R good ms n ks) (hp : ms[n]? = some p) (hm : f p k ∉ ms) (r : R (f p k)) (g : good p k) : Bfs ss f R good (ms ++ [f p k]) n (ks ++ [k]) := by
  have up : ∀ {i : Nat} {q : Pr}, i ≤ n → (ms ++ [f p k])[i]? = some q → ms[i]? = some q := fun {i q} hi e => by
    have hn := (List.getElem?_eq_some_iff.mp hp).1
    rw [List.getElem?_append_left (by omega)] at e
    exact e
  refine ⟨?_, List.mem_append_left _ b.st, fun q hq => ?_, fun i q hi e k' hk' => ?_, fun q hq k' hk' => ?_⟩
  · rw [List.nodup_append]
    refine ⟨b.nd, by simp, fun x hx y hy => ?_⟩
    rw [List.mem_singleton.mp hy]
    intro z
    rw [z] at hx
    exact hm hx
  · rcases List.mem_append.mp hq with h | h
    · exact b.rch q h
    · rw [List.mem_singleton.mp h]; exact r
  · have := b.dn i q hi (up (by omega) e) k' hk'
    exact ⟨List.mem_append_left _ this.1, this.2⟩
  · have hq := up (Nat.le_refl _) hq
    rcases List.mem_append.mp hk' with h | h
    · have := b.cur q hq k' h
      exact ⟨List.mem_append_left _ this.1, this.2⟩
    · rw [List.mem_singleton.mp h]
      rw [hp] at hq
      cases hq
      exact ⟨List.mem_append_right _ (by simp), g⟩
theorem Bfs.next (b : Bfs ss f R good ms n ss) (hp : ms[n]? = some p) : Bfs ss f R good ms (n + 1) [] := by
  refine ⟨b.nd, b.st, b.rch, fun i q hi e k hk => ?_, fun _ _ k hk => by cases hk⟩
  rcases Nat.lt_or_ge i n with h | h
  · exact b.dn i q h e k hk
  · obtain rfl : i = n := by omega
    exact b.cur q e k hk
theorem Bfs.closed (b : Bfs ss f R good ms n []) (hn : ms.length ≤ n) : ∀ p ∈ ms, ∀ k ∈ ss, f p k ∈ ms ∧ good p k := fun p hp k hk => by
  obtain ⟨i, e⟩ := List.mem_iff_getElem?.mp hp
  exact b.dn i p (by have := (List.getElem?_eq_some_iff.mp e).1; omega) e k hk
end
theorem reach_mem {ss : List Str} {r1 r2 : List Row} {ms : List Pr} (h0 : (0, 0) ∈ ms) (hc : ∀ p ∈ ms, ∀ k ∈ ss, nx r1 r2 p k ∈ ms) {p : Pr} (h : Reach ss r1 r2 p) : p ∈ ms := by
  induction h with
  | start => exact h0
  | step _ hk ih => exact hc _ ih _ hk
/-! ### pairs as data -/
theorem eqv_pair (p q : Pr) : PyData.eqv (pairD p) (pairD q) = decide (p = q) := by
  obtain ⟨a, b⟩ := p
  obtain ⟨c, d⟩ := q
  show PyData.eqv (.tuple [.int a, .int b]) (.tuple [.int c, .int d]) = _
  simp only [PyData.eqv, PyData.eqvAll, Bool.and_true]
  by_cases h1 : a = c <;> by_cases h2 : b = d <;> simp [h1, h2]
theorem any_pair (ms : List Pr) (q : Pr) : ((ms.map pairD).any fun z => PyData.eqv z (pairD q)) = decide (q ∈ ms) := by
  rw [List.any_map]
  induction ms with
  | nil => rfl
  | cons p ms ih =>
    rw [List.any_cons, ih]
    show (PyData.eqv (pairD p) (pairD q) || _) = _
    rw [eqv_pair]
    by_cases h : p = q
    · simp [h]
    · have h' : ¬ q = p := fun z => h z.symm
      by_cases h2 : q ∈ ms <;> simp [h, h', h2]
theorem canLay_pairs (ms : List Pr) : PyData.canLayAll0 (ms.map pairD) = true := by
  induction ms with
  | nil => simp [PyData.canLayAll0]
  | cons p ms ih => simp [PyData.canLayAll0, PyData.canLay0, pairD, ih]
theorem depth_pairs (ms : List Pr) : PyData.depthAll (ms.map pairD) ≤ 1 := by
  induction ms with
  | nil => simp [PyData.depthAll]
  | cons p ms ih => simp only [List.map_cons, PyData.depthAll, pairD, PyData.depth]; omega
theorem shaped_pair (p : Pr) : SeqAt.shaped (pairD p) = true := by
  unfold SeqAt.shaped
  simp [pairD, PyData.canLay0, PyData.canLayAll0, PyData.depth, PyData.depthAll]
theorem shaped_pairs (ms : List Pr) : SeqAt.shaped (.list (ms.map pairD)) = true := by
  unfold SeqAt.shaped
  have := depth_pairs ms
  simp only [PyData.canLay0, canLay_pairs, PyData.depth, Bool.true_and, decide_eq_true_eq]
  have h2 : PyData.depthAll (ms.map pairD) + 1 ≤ 2 := Nat.succ_le_succ this
  exact decide_eq_true (Nat.le_trans h2 (by decide : 2 ≤ 64))
theorem plain_pairs (ms : List Pr) : plains (ms.map pairD) = true := by
  induction ms with
  | nil => rfl
  | cons p ms ih => exact ih
theorem pair_inv {K : PySem.W.Frag} {H : Hp} {v : V} {p : Pr} (h : DD K H v (pairD p)) : ∃ t, v = .ref t ∧ SqT K H t [.int p.1, .int p.2] := by
  obtain ⟨t, xs, rfl, ht, hxs⟩ := h.tuple_inv
  refine ⟨t, rfl, ?_⟩
  cases hxs with
  | cons h1 h2 =>
    cases h2 with
    | cons h2 h3 =>
      cases h3
      rw [h1.int_inv, h2.int_inv] at ht
      exact ht
theorem DD.pair {K : PySem.W.Frag} {H : Hp} {t : Addr} {p : Pr} (h : SqT K H t [.int p.1, .int p.2]) : DD K H (.ref t) (pairD p) := .tup h (.cons (.int _) (.cons (.int _) .nil))
end Kp

set_option Elab.async false
set_option linter.all false
set_option maxRecDepth 100000
namespace Kp
open PySem PySem.Spec PyProof.Rows L2
def spAreInputs (K : PySem.W.Frag) : Sp := fun vs H Q _ => ∃ (a : Addr) (xs : List Str), vs = [.ref a] ∧ SqL K H a (xs.map V.str) ∧ OkIns xs ∧ ∀ H', Same H H' → Q (.bl true) H'
def spIsStep (K : PySem.W.Frag) : Sp := fun vs H Q _ => ∃ (t : Addr) (i n : Int) (o : Str), vs = [.ref t, .int n] ∧ SqT K H t [.int i, .str o] ∧ 0 ≤ i ∧ i < n ∧ isName o = true ∧ ∀ H', Same H H' → Q (.bl true) H'
def spIsRow (K : PySem.W.Frag) : Sp := fun vs H Q _ => ∃ (a : Addr) (v : V) (n : Nat) (ins : List Str) (r : Row), vs = [.ref a, v, .int n] ∧ SqL K H a (ins.map V.str) ∧ OkIns ins ∧ DD K H v (rowD r) ∧ OkRow ins n r ∧ ∀ H', Same H H' → Q (.bl true) H'
theorem all_true (n : Nat) : (List.replicate n true).all id = true := by
  induction n with
  | zero => rfl
  | succ n ih => rw [List.replicate_succ, List.all_cons, ih]; rfl
theorem rep_snoc (n : Nat) : (List.replicate n true).map V.bl ++ [V.bl true] = (List.replicate (n + 1) true).map V.bl := by
  rw [List.replicate_succ', List.map_append]; rfl
section
variable {P : Program} {w : World} {K : PySem.W.Frag} {mg : Str → Option Value} {base : Heap}
abbrev CIsName (P : Program) (w : World) (K : PySem.W.Frag) (mg : Str → Option Value) (base : Heap) : Prop := Cal P w K mg base CX0 1 "is_name" ["thing"] spIsName
abbrev CIsInteger (P : Program) (w : World) (K : PySem.W.Frag) (mg : Str → Option Value) (base : Heap) : Prop := Cal P w K mg base CX0 1 "is_integer" ["thing"] (spIsInteger K)
abbrev s_are_inputs : Stmt := topS 12
abbrev N_are_inputs : List Str := ["thing", "one"]
theorem sc_are_inputs : FnScope N_are_inputs ["thing"] (defScope s_are_inputs) := ⟨rfl, rfl, rfl, by decide +kernel, rfl, by decide +kernel, by decide +kernel⟩
theorem kit_lt {K : PySem.W.Frag} : PySem.W.kitAny K (.type "list") [.type "list", .type "tuple"] = some true := kitAny_cons (b := true) (kit_ty (by decide +kernel)) (fun z => nomatch z) fun _ => rfl
theorem two_line : [V.ty "list", V.ty "tuple"].length ≤ sizeLine := by decide
theorem ok_are_inputs {f : Addr} {fd : FuncData} (F : Fun K "are_inputs" "are_inputs" s_are_inputs f fd) (T : Bi mg) (CN : CIsName P w K mg base) : FnOk P w K mg base CX0 2 f fd ["thing"] (spAreInputs K) := by
  refine F.ok sc_are_inputs (fun vs H Q E h => ?_) (fun cdv A outer s H vs Q E hr h => ?_)
  · obtain ⟨a, xs, rfl, _⟩ := h
    rfl
  · obtain ⟨a, xs, rfl, hs, ok, k⟩ := h
    refine ⟨_, (pss_cons (ps_if (PW.pt (pw_or (pt_not (pt_val (pe_callB call_isiT (by rfl) T.b_isinstance (by decide +kernel) (pa_cons (pv 0) (pa_cons (pe_tup (pa_cons (pe_bltn (v := .ty "list") (by rfl) T.b_list (by decide +kernel) rfl) (pa_cons (pe_bltn (v := .ty "tuple") (by rfl) T.b_tuple (by decide +kernel) rfl) pa_nil))) pa_nil))))) (pw_or (pt_cmpR op_eq (pe_callB call_len_seq (by rfl) T.b_len (by decide +kernel) (pa_cons (pv 0) pa_nil)) pe_int (nomark _)) (pw_or1 (pt_not (pt_val (pe_callB (cr_all rfl) (by rfl) T.b_all (by decide +kernel) (pa_cons (pe_lc (own := [("one", 1)]) (by rfl) sc_are_inputs.nd (pi_list (pv 0)) (blkOk_by (N := N_are_inputs) (sc := defScope s_are_inputs) (by decide +kernel)) (fun _ _ _ _ _ => (pg_name (i := 1) sc_are_inputs.nd rfl (.inl rfl))) (fun _ _ _ _ _ => pts_nil) (fun _ _ _ _ _ => (pe_cal CN hr pass0 (pa_cons (pv 1) pa_nil)))) pa_nil))))))))
      (pss_one (ps_ret pe_bl))
      pss_nil)
    (pss_one (ps_ret (pe_cmpR op_eq (pe_callB call_lenK (by rfl) T.b_len (by decide +kernel) (pa_cons (pe_callTy (call_setL rfl) (by rfl) T.b_set (by decide +kernel) (pa_cons (pv 0) pa_nil)) pa_nil)) (pe_callB call_len_seq (by rfl) T.b_len (by decide +kernel) (pa_cons (pv 0) pa_nil)) (nomark _))))), ?_⟩
    have lt := ok.few
    refine ⟨_, rfl, two_line, fun tp np => ⟨_, tp, _, _, _, _, rfl, upd_same, .cons (.ty _) (.cons (.ty _) .nil), tyx_list ((same_new np).seq hs), kit_lt, _, rfl, ?_⟩⟩
    refine iteF ⟨_, rfl, a, _, rfl, .inl ((same_new np).seq hs), rfl, _, rfl, ite2 (fun c => ?_) fun _ => ?_⟩
    · exfalso
      have := ok.ne
      have c' : (xs.length : Int) = 0 := by simpa using of_decide_eq_true c
      exact this (List.eq_nil_of_length_eq_zero (by omega))
    refine ⟨_, rfl, a, rfl, ⟨_, (same_new np).seq hs⟩, fun D nD => ?_⟩
    have nD0 : H D = none := Same.free (same_new np) nD
    refine lc_list (xs := xs.map V.str) (fun i H' => Same H H' ∧ H' D = some (.lst ((List.replicate i true).map V.bl))) ⟨same_chg (same_new np) (Same.free (same_new np) nD), upd_same⟩ (fun i H' _ e => e.1.seq hs) ?_ ?_
    · rintro i x H' hx ⟨e1, e2⟩
      obtain ⟨z, hz, rfl⟩ : ∃ z, xs[i]? = some z ∧ x = V.str z := by
        rw [List.getElem?_map] at hx
        cases e : xs[i]? with
        | none => rw [e] at hx; cases hx
        | some z => rw [e] at hx; exact ⟨z, rfl, (Option.some.inj hx).symm⟩
      have hok := ok.ok z (List.mem_of_getElem? hz)
      have hlt := (List.getElem?_eq_some_iff.mp hz).1
      have big : 1000 ≤ sizeLine := by decide
      refine ⟨rfl, _, rfl, z, rfl, by have := isName_le hok; omega, fun H2 e3 => ?_⟩
      rw [hok]
      exact ⟨_, e3 _ _ e2, by simp; omega, same_chg (e1.trans e3) nD0, by rw [upd_same, rep_snoc]⟩
    · rintro H' ⟨e1, e2⟩
      rw [List.length_map] at e2
      refine ⟨D, List.replicate xs.length true, rfl, SqL.of e2, ?_⟩
      rw [all_true]
      have eq1 : (xs.map (Sum.inr : Str → L2.Key)).map kV = xs.map V.str := by rw [List.map_map]; rfl
      have nd : List.Nodup (xs.map (Sum.inr : Str → L2.Key)) := List.Pairwise.map _ (fun _ _ h e => h (Sum.inr.inj e)) ok.nd
      refine ⟨_, rfl, iteF ⟨_, rfl, a, xs.map Sum.inr, rfl, by rw [eq1]; exact e1.seq hs, by rw [List.length_map]; omega, fun p hp => ⟨p, _, _, rfl, upd_same, _, rfl, a, _, rfl, .inl ((same_chg e1 (e1.free hp)).seq hs), ?_⟩⟩⟩
      rw [met_id nd, List.length_map, List.length_map]
      refine ⟨rfl, ?_⟩
      rw [decide_eq_true rfl]
      exact k _ (same_chg e1 (e1.free hp))
abbrev s_is_step : Stmt := topS 13
abbrev N_is_step : List Str := ["thing", "many"]
theorem sc_is_step : FnScope N_is_step ["thing", "many"] (defScope s_is_step) := ⟨rfl, rfl, rfl, by decide +kernel, rfl, by decide +kernel, by decide +kernel⟩
theorem ok_is_step {f : Addr} {fd : FuncData} (F : Fun K "is_step" "is_step" s_is_step f fd) (T : Bi mg) (CN : CIsName P w K mg base) (CI : CIsInteger P w K mg base) : FnOk P w K mg base CX0 2 f fd ["thing", "many"] (spIsStep K) := by
  refine F.ok sc_is_step (fun vs H Q E h => ?_) (fun cdv A outer s H vs Q E hr h => ?_)
  · obtain ⟨t, i, n, o, rfl, _⟩ := h
    rfl
  · obtain ⟨t, i, n, o, rfl, ht, i0, i1, io, k⟩ := h
    have lo := isName_le io
    refine ⟨_, (pss_cons (ps_if (PW.pt (pw_or (pt_not (pt_val (pe_callB call_isi (by rfl) T.b_isinstance (by decide +kernel) (pa_cons (pv 0) (pa_cons (pe_bltn (v := .ty "tuple") (by rfl) T.b_tuple (by decide +kernel) rfl) pa_nil))))) (pw_or (pt_cmpR op_ne (pe_callB call_len_seq (by rfl) T.b_len (by decide +kernel) (pa_cons (pv 0) pa_nil)) pe_int (nomark _)) (pw_or1 (pt_not (pt_val (pe_cal CI hr pass0 (pa_cons (pe_ix ix_tup (pv 0) pe_int (fun _ _ => rfl)) pa_nil))))))))
      (pss_one (ps_ret pe_bl))
      pss_nil)
    (pss_one (ps_ret (pe_and (pe_chain op_le op_lt pe_int (pe_ix ix_tup (pv 0) pe_int (fun _ _ => rfl)) (pv 1)) (pe_one (pe_cal CN hr pass0 (pa_cons (pe_ix ix_tup (pv 0) pe_int (fun _ _ => rfl)) pa_nil))))))), ?_⟩
    refine ⟨_, rfl, _, _, _, _, _, rfl, .ty "tuple", tyx_tup ht, kit_ty (b := "tuple") (r := true) (by decide +kernel), _, rfl, ?_⟩
    refine iteF ⟨_, rfl, t, _, rfl, .inr ht, rfl, _, rfl, ?_⟩
    refine iteF ⟨_, rfl, t, _, _, .int i, rfl, rfl, ht, rfl, .int i, _, rfl, .int i, _, rfl, ?_⟩
    refine iteF ⟨_, rfl, t, _, _, .int i, rfl, rfl, ht, rfl, _, _, rfl, rfl, _, rfl, ite2 (fun _ => ?_) fun c => absurd (decide_eq_true i0) c⟩
    refine ⟨_, rfl, _, _, rfl, rfl, _, rfl, ite2 (fun _ => ?_) fun c => absurd (decide_eq_true i1) c⟩
    refine ⟨_, rfl, t, _, _, .str o, rfl, rfl, ht, rfl, o, rfl, by omega, fun H' e => ?_⟩
    rw [io]
    exact k H' e
abbrev s_is_row : Stmt := topS 14
abbrev N_is_row : List Str := ["inputs", "thing", "many", "step", "key"]
theorem sc_is_row : FnScope N_is_row ["inputs", "thing", "many"] (defScope s_is_row) := ⟨rfl, rfl, rfl, by decide +kernel, rfl, by decide +kernel, by decide +kernel⟩
abbrev CIsStep (P : Program) (w : World) (K : PySem.W.Frag) (mg : Str → Option Value) (base : Heap) : Prop := Cal P w K mg base CX0 2 "is_step" ["thing", "many"] (spIsStep K)
theorem ok_is_row {f : Addr} {fd : FuncData} (F : Fun K "is_row" "is_row" s_is_row f fd) (T : Bi mg) (CN : CIsName P w K mg base) (CS : CIsStep P w K mg base) : FnOk P w K mg base CX0 3 f fd ["inputs", "thing", "many"] (spIsRow K) := by
  refine F.ok sc_is_row (fun vs H Q E h => ?_) (fun cdv A outer s H vs Q E hr h => ?_)
  · obtain ⟨a, v, n, ins, r, rfl, _⟩ := h
    rfl
  · obtain ⟨a, v, n, ins, r, rfl, hs, oi, hv, ok, k⟩ := h
    refine ⟨_, (pss_cons (ps_if (PW.pt (pw_or (pt_not (pt_val (pe_callB call_isi (by rfl) T.b_isinstance (by decide +kernel) (pa_cons (pv 1) (pa_cons (pe_bltn (v := .ty "dict") (by rfl) T.b_dict (by decide +kernel) rfl) pa_nil))))) (pw_or1 (pt_not (pt_val (pe_callB (cr_all rfl) (by rfl) T.b_all (by decide +kernel) (pa_cons (pe_lock (pe_lc (own := [("key", 4)]) (by rfl) sc_is_row.nd (pi_keys (pv 1)) (blkOk_by (N := N_is_row) (sc := defScope s_is_row) (by decide +kernel)) (fun _ _ _ _ _ => (pg_name (i := 4) sc_is_row.nd rfl (.inl rfl))) (fun _ _ _ _ _ => pts_nil) (fun _ _ _ _ _ => (pe_cal CN (hr.mono (by decide)) pass0 (pa_cons (pv 4) pa_nil))))) pa_nil)))))))
      (pss_one (ps_ret pe_bl))
      pss_nil)
    (pss_one (ps_ret (pe_and (pe_cmpR (op_eqS hr.units) (pe_callB (call_sortedD rfl) (by rfl) T.b_sorted (by decide +kernel) (pa_cons (pv 1) pa_nil)) (pe_callB cr_sortedS (by rfl) T.b_sorted (by decide +kernel) (pa_cons (pv 0) pa_nil)) (nomark _)) (pe_one (pe_callB (cr_all rfl) (by rfl) T.b_all (by decide +kernel) (pa_cons (pe_lock (pe_lc (own := [("step", 3)]) (by rfl) sc_is_row.nd (pi_values (pv 1)) (blkOk_by (N := N_is_row) (sc := defScope s_is_row) (by decide +kernel)) (fun _ _ _ _ _ => (pg_name (i := 3) sc_is_row.nd rfl (.inl rfl))) (fun _ _ _ _ _ => pts_nil) (fun _ _ _ _ _ => (pe_cal CS hr pass0 (pa_cons (pv 3) (pa_cons (pv 2) pa_nil)))))) pa_nil))))))), ?_⟩
    have lt := oi.few
    have rne : r ≠ [] := fun e => by
      have := ok.keys.length_eq
      rw [e] at this
      exact oi.ne (List.eq_nil_of_length_eq_zero (by simpa using this.symm))
    obtain ⟨d, kvs, rfl, hd, hk, hvs⟩ := row_inv hv rne
    have kl : kvs.length = r.length := by have := congrArg List.length hk; simpa using this
    have rl : r.length = ins.length := by have := ok.keys.length_eq; simpa using this
    have big : 1000 ≤ sizeLine := by decide
    refine ⟨_, rfl, _, _, _, _, _, rfl, .ty "dict", .base (.dK hd), kit_ty (b := "dict") (r := true) (by decide +kernel), _, rfl, ?_⟩
    refine iteF ⟨d, _, hd, trivial, fun od => ?_⟩
    have kn : ∀ {i : Nat} {k : L2.Key} {v : V}, kvs[i]? = some (k, v) → ∃ p : Str × (Int × Str), k = Sum.inr p.1 ∧ isName p.1 = true ∧ r[i]? = some p := fun {i k v} e => by
      have e1 : (kvs.map (·.1))[i]? = some k := by rw [List.getElem?_map, e]; rfl
      rw [hk, List.getElem?_map] at e1
      cases e2 : r[i]? with
      | none => rw [e2] at e1; cases e1
      | some p =>
        rw [e2] at e1
        refine ⟨p, (Option.some.inj e1).symm, oi.ok _ (ok.keys.mem_iff.mp (List.mem_map.mpr ⟨p, List.mem_of_getElem? e2, rfl⟩)), rfl⟩
    refine ⟨_, rfl, d, od, rfl, .inl ⟨kvs, upd_same, fun D nD => ?_⟩⟩
    refine lc_it walk_keys (fun i H' => Same (upd H d (.frz od (.dK kvs))) H' ∧ H' D = some (.lst ((List.replicate i true).map V.bl))) ⟨same_new nD, upd_same⟩ (fun i H' _ e => e.1 _ _ upd_same) ?_ ?_
    · rintro i x H1 H2 hi ⟨e1, e2⟩ ⟨rfl, k, v, hkv, rfl⟩
      obtain ⟨z, rfl, hz, _⟩ := kn hkv
      refine ⟨rfl, _, rfl, z.1, rfl, by have := isName_le hz; omega, fun H3 e3 => ?_⟩
      rw [hz]
      exact ⟨_, e3 _ _ e2, by simp; omega, same_chg (e1.trans e3) nD, by rw [upd_same, rep_snoc]⟩
    · rintro H1 ⟨e1, e2⟩
      refine ⟨e1 _ _ upd_same, D, List.replicate kvs.length true, rfl, SqL.of (by rw [upd_ne fun z => by rw [z, upd_same] at nD; cases nD]; exact e2), ?_⟩
      have g1 := same_unlock e1 hd
      generalize upd H1 d (.dK kvs) = H2 at g1
      rw [all_true]
      refine ⟨_, rfl, iteF ?_⟩
      -- the keys, sorted
      refine ⟨_, rfl, d, kvs, r.map (·.1), rfl, .inl (g1 _ _ hd), by rw [hk, List.map_map]; rfl, by rw [List.length_map]; omega, fun ys p py sy np => ?_⟩
      refine ⟨_, rfl, a, ins, rfl, (same_new np).seq (g1.seq hs), lt, fun zs q pz sz nq => ?_⟩
      obtain rfl : ys = zs := sorted_eq sy sz (py.trans (ok.keys.trans pz.symm))
      refine ⟨.list (ys.map .str), by simp [PyData.depth, depth_strs], noT_strs ys, dd_strs ((same_new nq).seq (SqL.of upd_same)), dd_strs (SqL.of upd_same), _, rfl, iteT ?_⟩
      have g2 : Same H (upd (upd H2 p (.lst (ys.map V.str))) q (.lst (ys.map V.str))) := g1.trans ((same_new np).trans (same_new nq))
      generalize upd (upd H2 p (.lst (ys.map V.str))) q (.lst (ys.map V.str)) = H3 at g2
      refine ⟨d, _, g2 _ _ hd, trivial, fun od2 => ?_⟩
      refine ⟨_, rfl, d, od2, kvs, rfl, upd_same, fun D2 nD2 => ?_⟩
      refine lc_it walk_values (fun i H' => Same (upd H3 d (.frz od2 (.dK kvs))) H' ∧ H' D2 = some (.lst ((List.replicate i true).map V.bl))) ⟨same_new nD2, upd_same⟩ (fun i H' _ e => e.1 _ _ upd_same) ?_ ?_
      · rintro i x H4 H5 hi ⟨e1, e2⟩ ⟨rfl, k, hkv⟩
        obtain ⟨z, rfl, hz, hp⟩ := kn hkv
        obtain ⟨dd, hdd, hx⟩ := hvs.get (show (kvs.map (·.2))[i]? = some x by rw [List.getElem?_map, hkv]; rfl)
        rw [List.getElem?_map, hp] at hdd
        obtain rfl := Option.some.inj hdd
        obtain ⟨t, rfl, ht⟩ := step_inv hx
        have o3 := ok.ok z (List.mem_of_getElem? hp)
        have ht5 := sqT_up e1 (sqT_off (o := .frz od2 (.dK kvs)) (sqT_up g2 ht) (g2 _ _ hd))
        refine ⟨rfl, _, rfl, _, rfl, t, _, n, _, rfl, ht5, o3.1, o3.2.1, o3.2.2, fun H6 e6 => ?_⟩
        exact ⟨_, e6 _ _ e2, by simp; omega, same_chg (e1.trans e6) nD2, by rw [upd_same, rep_snoc]⟩
      · rintro H4 ⟨e1, e2⟩
        refine ⟨e1 _ _ upd_same, D2, List.replicate kvs.length true, rfl, SqL.of (by rw [upd_ne fun z => by rw [z, upd_same] at nD2; cases nD2]; exact e2), ?_⟩
        rw [all_true]
        exact k _ (g2.trans (same_unlock e1 (g2 _ _ hd)))
end
end Kp

set_option Elab.async false
set_option linter.all false
set_option maxRecDepth 100000
namespace Kp
open PySem PySem.Spec PyProof.Rows L2 SlX
/-- Machine.__init__ at a new instance -/
def spInit (K : PySem.W.Frag) (C : Addr) : Sp := fun vs H Q _ => ∃ (x dx a : Addr) (v : V) (G : Hp) (ins : List Str) (rs : List Row), vs = [.ref x, .ref a, v] ∧ Same G H ∧ H x = some (.ins C dx []) ∧ H dx = some (.own x) ∧ G x = none ∧ G dx = none ∧ dx ≠ x ∧
  SqL K G a (ins.map V.str) ∧ OkIns ins ∧ DD K G v (rulesD rs) ∧ OkRules ins rs ∧
  ∀ G' H' li lr ss, Gr (fun c => c = x ∨ c = dx) G H G' H' → G' x = none → G' dx = none → H' x = some (SlO x C dx [some (.ref li), some (.ref lr)]) → H' dx = some (.xd []) → SqL K G' li (ss.map V.str) → ss.Perm ins → sortedS ss = true →
    DD K G' (.ref lr) (rulesD (rs.map (reord ss))) → Q .non H'
def spMLen (K : PySem.W.Frag) (C : Addr) : Sp := fun vs H Q _ => ∃ v G ss rs, vs = [v] ∧ Same G H ∧ Ma K C G v ss rs ∧ Q (.int rs.length) H
def spMInputs (K : PySem.W.Frag) (C : Addr) : Sp := fun vs H Q _ => ∃ v G ss rs, vs = [v] ∧ Same G H ∧ Ma K C G v ss rs ∧ ∀ p, H p = none → Q (.ref p) (upd H p (.lst (ss.map V.str)))
def spMStep (K : PySem.W.Frag) (C : Addr) : Sp := fun vs H Q _ => ∃ v G ss rs, ∃ (q : Int) (k : Str) (r : Row), vs = [v, .int q, .str k] ∧ Same G H ∧ Ma K C G v ss rs ∧ 0 ≤ q ∧ rs[q.toNat]? = some r ∧ k ∈ r.map (·.1) ∧ ∀ t, DD K G (.ref t) (stD (get r k)) → Q (.ref t) H
section
variable {P : Program} {w : World} {K : PySem.W.Frag} {mg : Str → Option Value} {base : Heap} {C : Addr}
abbrev CAreInputs (P : Program) (w : World) (K : PySem.W.Frag) (mg : Str → Option Value) (base : Heap) : Prop := Cal P w K mg base CX0 2 "are_inputs" ["thing"] (spAreInputs K)
abbrev CIsRow (P : Program) (w : World) (K : PySem.W.Frag) (mg : Str → Option Value) (base : Heap) : Prop := Cal P w K mg base CX0 3 "is_row" ["inputs", "thing", "many"] (spIsRow K)
abbrev s_Mlen : Stmt := inClass (topS 15) 3
abbrev N_Mlen : List Str := ["self"]
theorem sc_Mlen : FnScope N_Mlen ["self"] (defScope s_Mlen) := ⟨rfl, rfl, rfl, by decide +kernel, rfl, by decide +kernel, by decide +kernel⟩
theorem ok_Mlen {f : Addr} {fd : FuncData} (F : Fun K "__len__" "Machine.__len__" s_Mlen f fd) (T : Bi mg) (M : Mc K mg C) : FnOk P w K mg base CX0 1 f fd ["self"] (spMLen K C) := by
  refine F.ok sc_Mlen (fun vs H Q E h => ?_) (fun cdv A outer s H vs Q E hr h => ?_)
  · obtain ⟨v, G, ss, rs, rfl, _⟩ := h
    rfl
  · obtain ⟨v, G, ss, rs, rfl, e, ⟨a, dx, li, lr, rfl, h1, h2, h3⟩, k⟩ := h
    obtain ⟨p2, s2⟩ := M.s2
    obtain ⟨_, xs, hv, hl, hd⟩ := h3.list_inv
    cases hv
    have hn := hd.length
    rw [List.length_map] at hn
    refine ⟨_, (pss_one (ps_ret (pe_callB call_len_seq (by rfl) T.b_len (by decide +kernel) (pa_cons (pe_sl (pv 0)) pa_nil)))), ?_⟩
    refine ⟨_, rfl, a, C, dx, p2, _, 1, _, rfl, slt_up e h1, M.cls, s2, rfl, lr, xs, rfl, .inl (e.seq hl), ?_⟩
    rw [hn]
    exact k
abbrev s_Minputs : Stmt := inClass (topS 15) 4
abbrev N_Minputs : List Str := ["self"]
theorem sc_Minputs : FnScope N_Minputs ["self"] (defScope s_Minputs) := ⟨rfl, rfl, rfl, by decide +kernel, rfl, by decide +kernel, by decide +kernel⟩
theorem ok_Minputs {f : Addr} {fd : FuncData} (F : Fun K "inputs" "Machine.inputs" s_Minputs f fd) (T : Bi mg) (M : Mc K mg C) : FnOk P w K mg base CX0 1 f fd ["self"] (spMInputs K C) := by
  refine F.ok sc_Minputs (fun vs H Q E h => ?_) (fun cdv A outer s H vs Q E hr h => ?_)
  · obtain ⟨v, G, ss, rs, rfl, _⟩ := h
    rfl
  · obtain ⟨v, G, ss, rs, rfl, e, ⟨a, dx, li, lr, rfl, h1, h2, h3⟩, k⟩ := h
    obtain ⟨p1, s1⟩ := M.s1
    refine ⟨_, (pss_one (ps_ret (pe_callTy call_list_of (by rfl) T.b_list (by decide +kernel) (pa_cons (pe_sl (pv 0)) pa_nil)))), ?_⟩
    exact ⟨_, rfl, a, C, dx, p1, _, 0, _, rfl, slt_up e h1, M.cls, s1, rfl, li, _, rfl, .inl (e.seq h2), k⟩
abbrev s_Mstep : Stmt := inClass (topS 15) 6
abbrev N_Mstep : List Str := ["self", "state", "one"]
theorem sc_Mstep : FnScope N_Mstep ["self", "state", "one"] (defScope s_Mstep) := ⟨rfl, rfl, rfl, by decide +kernel, rfl, by decide +kernel, by decide +kernel⟩
theorem ok_Mstep {f : Addr} {fd : FuncData} (F : Fun K "step" "Machine.step" s_Mstep f fd) (M : Mc K mg C) : FnOk P w K mg base CX0 1 f fd ["self", "state", "one"] (spMStep K C) := by
  refine F.ok sc_Mstep (fun vs H Q E h => ?_) (fun cdv A outer s H vs Q E hr h => ?_)
  · obtain ⟨v, G, ss, rs, q, k, r, rfl, _⟩ := h
    rfl
  · obtain ⟨v, G, ss, rs, q, k, r, rfl, e, ⟨a, dx, li, lr, rfl, h1, h2, h3⟩, q0, hq, hk, fin⟩ := h
    obtain ⟨p2, s2⟩ := M.s2
    obtain ⟨_, xs, hv, hl, hd⟩ := h3.list_inv
    cases hv
    obtain ⟨x, ex, hx⟩ := hd.getD (i := q.toNat) (show (rs.map rowD)[q.toNat]? = some (rowD r) by rw [List.getElem?_map, hq]; rfl)
    obtain ⟨d, kvs, rfl, hkv, ek, es⟩ := row_inv hx (fun z => by rw [z] at hk; cases hk)
    obtain ⟨y, ey, hy⟩ := valV_row ek es hk
    obtain ⟨t, rfl, ht⟩ := step_inv hy
    refine ⟨_, (pss_one (ps_ret (pe_dget (hu_of hr) (pe_ix ix_list (pe_sl (pv 0)) (pv 1) (fun _ _ => rfl)) (pv 2) (fun _ _ => rfl)))), ?_⟩
    have eq : q = ((q.toNat : Nat) : Int) := by omega
    refine ⟨_, rfl, a, C, dx, p2, _, 1, _, rfl, slt_up e h1, M.cls, s2, rfl, _, rfl, lr, xs, q, .ref d, rfl, rfl, e.seq hl, at_of eq ex, _, rfl, d, .ref t, rfl, ?_, fin t hy⟩
    rw [← ey]
    exact DGet.k (k := Sum.inr k) (e _ _ hkv)
abbrev s_Minit : Stmt := inClass (topS 15) 1
abbrev N_Minit : List Str := ["self", "inputs", "rules", "row", "one"]
theorem sc_Minit : FnScope N_Minit ["self", "inputs", "rules"] (defScope s_Minit) := ⟨rfl, rfl, rfl, by decide +kernel, rfl, by decide +kernel, by decide +kernel⟩
theorem ok_Minit {f : Addr} {fd : FuncData} (F : Fun K "__init__" "Machine.__init__" s_Minit f fd) (T : Bi mg) (M : Mc K mg C) (CA : CAreInputs P w K mg base) (CR : CIsRow P w K mg base) : FnOk P w K mg base CX0 4 f fd ["self", "inputs", "rules"] (spInit K C) := by
  refine F.ok sc_Minit (fun vs H Q E h => ?_) (fun cdv A outer s H vs Q E hr h => ?_)
  · obtain ⟨x, dx, a, v, G, ins, rs, rfl, _⟩ := h
    rfl
  · obtain ⟨x, dx, a, v, G, ins, rs, rfl, e0, hx, hdx, gx, gdx, ne, ha, oi, hv, ok, fin⟩ := h
    obtain ⟨p1, s1⟩ := M.s1
    obtain ⟨p2, s2⟩ := M.s2
    obtain ⟨lr0, xs, rfl, hl, hd⟩ := hv.list_inv
    have hn := hd.length
    rw [List.length_map] at hn
    have lt := ok.few
    have lti := oi.few
    have big : 1000 ≤ sizeLine := by decide
    refine ⟨_, (pss_cons (ps_if (pt_not (pt_val (pe_cal CA (hr.mono (by decide)) pass0 (pa_cons (pv 1) pa_nil))))
      (pss_one (ps_never))
      pss_nil)
    (pss_cons (ps_if (PW.pt (pw_or (pt_not (pt_val (pe_callB call_isiT (by rfl) T.b_isinstance (by decide +kernel) (pa_cons (pv 2) (pa_cons (pe_tup (pa_cons (pe_bltn (v := .ty "list") (by rfl) T.b_list (by decide +kernel) rfl) (pa_cons (pe_bltn (v := .ty "tuple") (by rfl) T.b_tuple (by decide +kernel) rfl) pa_nil))) pa_nil))))) (pw_or1 (pt_cmpR op_eq (pe_callB call_len_seq (by rfl) T.b_len (by decide +kernel) (pa_cons (pv 2) pa_nil)) pe_int (nomark _)))))
      (pss_one (ps_never))
      pss_nil)
    (pss_cons (ps_if (pt_not (pt_val (pe_callB (cr_all rfl) (by rfl) T.b_all (by decide +kernel) (pa_cons (pe_lc (own := [("row", 3)]) (by rfl) sc_Minit.nd (pi_list (pv 2)) (blkOk_by (N := N_Minit) (sc := defScope s_Minit) (by decide +kernel)) (fun _ _ _ _ _ => (pg_name (i := 3) sc_Minit.nd rfl (.inl rfl))) (fun _ _ _ _ _ => pts_nil) (fun _ _ _ _ _ => (pe_cal CR hr pass0 (pa_cons (pv 1) (pa_cons (pv 3) (pa_cons (pe_callB (len_k (K := K)) (by rfl) T.b_len PySem.boot_len (pa_cons (pv 2) pa_nil)) pa_nil)))))) pa_nil))))
      (pss_one (ps_never))
      pss_nil)
    (pss_cons (ps_sl (pv 0) (pe_callB cr_sortedS (by rfl) T.b_sorted (by decide +kernel) (pa_cons (pv 1) pa_nil)))
    (pss_one (ps_sl (pv 0) (pe_lc (own := [("row", 3)]) (by rfl) sc_Minit.nd (pi_list (pv 2)) (blkOk_by (N := N_Minit) (sc := defScope s_Minit) (by decide +kernel)) (fun _ _ _ _ _ => (pg_name (i := 3) sc_Minit.nd rfl (.inr rfl))) (fun _ _ _ _ _ => pts_nil) (fun _ _ _ _ _ => (pe_dc (own := [("one", 4)]) (by rfl) sc_Minit.nd (pi_listk (K := K) (pe_slk (K := K) (pv 0))) (blkOk_by (by kernel_rfl)) (fun _ _ _ _ _ => (pg_name (i := 4) sc_Minit.nd rfl (.inl rfl))) (fun _ _ _ _ _ => pts_nil) (fun _ _ _ _ _ => (pv 4)) (fun _ _ _ _ _ => (pe_dget (hu_of hr) (pv 3) (pv 4) (fun _ _ => rfl)))))))))))), ?_⟩
    refine ⟨_, rfl, a, ins, rfl, e0.seq ha, oi, fun H1 e1 => ⟨_, rfl, iteF ?_⟩⟩
    refine ⟨_, rfl, two_line, fun tp np => ⟨_, tp, _, _, _, _, rfl, upd_same, .cons (.ty _) (.cons (.ty _) .nil), tyx_list ((e0.trans (same_chg e1 (e1.free np))).seq hl), kit_lt, _, rfl, ?_⟩⟩
    have e2 : Same H (upd H1 tp (.tup [.ty "list", .ty "tuple"])) := same_chg e1 (e1.free np)
    generalize upd H1 tp (.tup [.ty "list", .ty "tuple"]) = H2 at e2
    refine iteF ⟨_, rfl, lr0, xs, rfl, .inl ((e0.trans e2).seq hl), rfl, _, rfl, ite2 (fun c => ?_) fun _ => ?_⟩
    · exfalso
      have c' : (xs.length : Int) = 0 := by simpa using of_decide_eq_true c
      exact ok.ne (List.eq_nil_of_length_eq_zero (by omega))
    refine ⟨_, rfl, lr0, rfl, ⟨_, (e0.trans e2).seq hl⟩, fun D nD => ?_⟩
    have nD0 := e2.free nD
    refine lc_list (xs := xs) (fun i H' => Same H H' ∧ H' D = some (.lst ((List.replicate i true).map V.bl))) ⟨same_chg e2 nD0, upd_same⟩ (fun i H' _ e => (e0.trans e.1).seq hl) ?_ ?_
    · rintro i y H' hy ⟨e3, e4⟩
      obtain ⟨_, hr0, dy⟩ := hd.get hy
      obtain ⟨r, hr1, rfl⟩ : ∃ r, rs[i]? = some r ∧ _ = rowD r := by
        rw [List.getElem?_map] at hr0
        cases z : rs[i]? with
        | none => rw [z] at hr0; cases hr0
        | some r => rw [z] at hr0; exact ⟨r, rfl, (Option.some.inj hr0).symm⟩
      have hlt := (List.getElem?_eq_some_iff.mp hy).1
      refine ⟨rfl, _, rfl, _, rfl, _, rfl, lr0, xs, rfl, .inl ((e0.trans e3).seq hl), a, y, xs.length, ins, r, rfl, (e0.trans e3).seq ha, oi, dy.up (e0.trans e3), by rw [hn]; exact ok.ok r (List.mem_of_getElem? hr1), fun H3 e5 => ?_⟩
      exact ⟨_, e5 _ _ e4, by simp; omega, same_chg (e3.trans e5) nD0, by rw [upd_same, rep_snoc]⟩
    rintro H3 ⟨e3, e4⟩
    refine ⟨D, List.replicate xs.length true, rfl, SqL.of e4, ?_⟩
    rw [all_true]
    refine ⟨_, rfl, iteF ?_⟩
    clear e4
    refine ⟨_, rfl, a, ins, rfl, (e0.trans e3).seq ha, lti, fun ss li pm srt nli => ?_⟩
    have nli0 := e3.free nli
    have nliG : G li = none := none_of e0 nli0
    have xli : x ≠ li := fun z => by rw [← z, hx] at nli0; cases nli0
    have dxli : dx ≠ li := fun z => by rw [← z, hdx] at nli0; cases nli0
    refine ⟨_, rfl, x, C, dx, p1, [], 0, rfl, .inl ⟨by rw [upd_ne xli]; exact e3 _ _ hx, rfl⟩, M.cls, s1, ?_⟩
    let W : Addr → Prop := fun c => c = x ∨ c = dx
    have nli1 : H3 li = none := nli
    have g5 : Gr W G H (upd G li (.lst (ss.map V.str))) (slH (upd H3 li (.lst (ss.map V.str))) x C dx [some (.ref li)]) :=
      (((Gr.pure e0 e3).add nli0 nli1).chg (by rw [upd_ne dxli]; exact gdx) (.inl (.inr rfl))).chg (by rw [upd_ne xli]; exact gx) (.inl (.inl rfl))
    have x5 : slH (upd H3 li (.lst (ss.map V.str))) x C dx [some (.ref li)] x = some (SlO x C dx [some (.ref li)]) := upd_same
    have d5 : slH (upd H3 li (.lst (ss.map V.str))) x C dx [some (.ref li)] dx = some (.xd []) := by unfold slH; rw [upd_ne ne, upd_same]
    have gx5 : upd G li (.lst (ss.map V.str)) x = none := by rw [upd_ne xli]; exact gx
    have gd5 : upd G li (.lst (ss.map V.str)) dx = none := by rw [upd_ne dxli]; exact gdx
    have gl5 : SqL K (upd G li (.lst (ss.map V.str))) li (ss.map V.str) := SqL.of upd_same
    rw [show putS 0 (V.ref li) [] = [some (V.ref li)] from rfl]
    generalize upd G li (.lst (ss.map V.str)) = G5 at g5 gx5 gd5 gl5
    generalize slH (upd H3 li (.lst (ss.map V.str))) x C dx [some (.ref li)] = H5 at g5 x5 d5
    refine ⟨_, rfl, lr0, rfl, ⟨_, g5.fz.seq (g5.sub.seq hl)⟩, fun D2 nD2 => ?_⟩
    have xD : x ≠ D2 := fun z => by rw [← z, x5] at nD2; cases nD2
    have dD : dx ≠ D2 := fun z => by rw [← z, d5] at nD2; cases nD2
    have nD20 : H D2 = none := by
      cases z : H D2 with
      | none => rfl
      | some o =>
        rw [g5.old D2 o (fun q => q.elim (fun q => xD q.symm) fun q => dD q.symm) z] at nD2
        cases nD2
    refine lc_list (xs := xs) (fun i H' => ∃ G' vs, Gr W G H G' H' ∧ Same G5 G' ∧ G' D2 = none ∧ H' x = some (SlO x C dx [some (.ref li)]) ∧ H' dx = some (.xd []) ∧ H' D2 = some (.lst vs) ∧ DDs K G' vs ((rs.take i).map fun r => rowD (reord ss r)))
      ⟨G5, [], g5.chg (none_of g5.fz nD2) (.inr nD20), Same.refl _, none_of g5.fz nD2, by rw [upd_ne xD]; exact x5, by rw [upd_ne dD]; exact d5, upd_same, .nil⟩ ?_ ?_ ?_
    · rintro i H' _ ⟨G', vs, g, _⟩
      exact g.fz.seq (g.sub.seq hl)
    · rintro i y H' hy ⟨G', vs, g, g55, gD, hx', hd', hD', dv⟩
      obtain ⟨_, hr0, dy⟩ := hd.get hy
      obtain ⟨r, hr1, rfl⟩ : ∃ r, rs[i]? = some r ∧ _ = rowD r := by
        rw [List.getElem?_map] at hr0
        cases z : rs[i]? with
        | none => rw [z] at hr0; cases hr0
        | some r => rw [z] at hr0; exact ⟨r, rfl, (Option.some.inj hr0).symm⟩
      have okr := ok.ok r (List.mem_of_getElem? hr1)
      have rne : r ≠ [] := fun e => by
        have := okr.keys.length_eq
        rw [e] at this
        exact oi.ne (List.eq_nil_of_length_eq_zero (by simpa using this.symm))
      obtain ⟨d, kvs, rfl, hd0, hk, hvs⟩ := row_inv dy rne
      have hdH : H' d = some (.dK kvs) := g.fz _ _ (g.sub _ _ hd0)
      have lim := pm.length_eq
      have vl := dv.length
      rw [List.length_map, List.length_take] at vl
      refine ⟨rfl, _, rfl, x, C, dx, p1, _, 0, _, rfl, .inr ⟨hx', hd'⟩, M.cls, s1, rfl, li, rfl, ⟨_, g.fz.seq (g55.seq gl5)⟩, fun D3 nD3 => ?_⟩
      have nD3G := none_of g.fz nD3
      have nD30 : H D3 = none := by
        cases z : H D3 with
        | none => rfl
        | some o =>
          rw [g.old D3 o (fun q => q.elim (fun q => by rw [q, hx'] at nD3; cases nD3) fun q => by rw [q, hd'] at nD3; cases nD3) z] at nD3
          cases nD3
      refine dc_it (walk_list (xs := ss.map V.str)) (fun j Hj => ∃ ks, Hj = upd H' D3 (.dK ks) ∧ ks.map (·.1) = (ss.take j).map (fun k => (Sum.inr k : L2.Key)) ∧ DDs K G' (ks.map (·.2)) ((ss.take j).map fun k => stD (get r k))) ⟨[], rfl, rfl, .nil⟩ ?_ ?_ ?_
      · rintro j Hj _ ⟨ks, rfl, _⟩
        exact (same_new nD3).seq (g.fz.seq (g55.seq gl5))
      · rintro j z Hj Hj2 hj ⟨ks, rfl, k1, k2⟩ ⟨rfl, hz⟩
        obtain ⟨k, hk1, rfl⟩ := at_map hz
        have kin : k ∈ ins := pm.mem_iff.mp (List.mem_of_getElem? hk1)
        obtain ⟨y, ey, hy2⟩ := valV_row hk hvs (okr.keys.mem_iff.mpr kin)
        have hj2 : j < ss.length := by simpa using hj
        have kl : ks.length = j := by
          have := congrArg List.length k1
          simp only [List.length_map, List.length_take] at this
          omega
        refine ⟨rfl, _, rfl, _, rfl, _, rfl, d, y, rfl, by rw [← ey]; exact DGet.k (k := Sum.inr k) (same_new nD3 _ _ hdH), ks, Sum.inr k, rfl, upd_same, by omega, ?_⟩
        have fresh : (Sum.inr k : L2.Key) ∉ ks.map (·.1) := by
          rw [k1]
          intro m
          obtain ⟨k', m', e⟩ := List.mem_map.mp m
          obtain rfl := Sum.inr.inj e
          have nd := pm.nodup_iff.mpr oi.nd
          rw [← List.take_append_drop j ss, List.nodup_append] at nd
          have e3 : (ss.drop j)[0]? = some k' := by rw [List.getElem?_drop]; exact hk1
          exact nd.2.2 k' m' k' (List.mem_of_getElem? e3) rfl
        rw [putK_new fresh, upd_upd]
        have tk : ss.take (j + 1) = ss.take j ++ [k] := by rw [List.take_succ, hk1]; rfl
        refine ⟨_, rfl, ?_, ?_⟩
        · rw [List.map_append, k1, tk, List.map_append]; rfl
        · rw [List.map_append, tk, List.map_append]
          exact k2.append (.one (hy2.up g.sub))
      · rintro Hj ⟨ks, rfl, k1, k2⟩
        rw [List.length_map, List.take_length] at k1 k2
        have D23 : D2 ≠ D3 := fun z => by rw [← z, hD'] at nD3; cases nD3
        refine ⟨vs, by rw [upd_ne D23]; exact hD', by omega, upd G' D3 (.dK ks), _, (g.add nD30 nD3).chg (by rw [upd_ne D23]; exact gD) (.inr nD20), g55.trans (same_new nD3G), by rw [upd_ne D23]; exact gD, ?_, ?_, upd_same, ?_⟩
        · rw [upd_ne xD, upd_ne fun z => by rw [← z, hx'] at nD3; cases nD3]; exact hx'
        · rw [upd_ne dD, upd_ne fun z => by rw [← z, hd'] at nD3; cases nD3]; exact hd'
        · rw [show rs.take (i + 1) = rs.take i ++ [r] by rw [List.take_succ, hr1]; rfl, List.map_append]
          refine (dv.up (same_new nD3G)).append (.one (.dic upd_same ?_ ?_))
          · have z := congrArg (List.map keyD) k1
            rw [List.map_map, List.map_map] at z
            unfold reord
            rw [List.map_map, List.map_map]
            exact z.symm
          · unfold reord; rw [List.map_map, List.map_map]; exact k2.up (same_new nD3G)
    · rintro H' ⟨G', vs, g, g55, gD, hx', hd', hD', dv⟩
      rw [show rs.take xs.length = rs by rw [hn, List.take_length]] at dv
      refine ⟨_, rfl, x, C, dx, p2, _, 1, rfl, .inr ⟨hx', hd'⟩, M.cls, s2, ?_⟩
      have gx' : G' x = none := by rw [g.new x (by rw [hx]; simp)]; exact gx
      have gd' : G' dx = none := by rw [g.new dx (by rw [hdx]; simp)]; exact gdx
      have gg := g.freeze (o := .lst vs) nD20 hD'
      have dd : DD K (upd G' D2 (.lst vs)) (.ref D2) (rulesD (rs.map (reord ss))) := .lst (SqL.of upd_same) (by rw [List.map_map]; exact dv.up (same_new gD))
      have gx2 : upd G' D2 (.lst vs) x = none := by rw [upd_ne xD]; exact gx'
      have gd2 : upd G' D2 (.lst vs) dx = none := by rw [upd_ne dD]; exact gd'
      exact fin _ _ li D2 ss ((gg.chg gd2 (.inl (.inr rfl))).chg gx2 (.inl (.inl rfl))) gx2 gd2 upd_same (by unfold slH; rw [upd_ne ne, upd_same]) ((g55.trans (same_new gD)).seq gl5) pm srt dd
end
end Kp

set_option Elab.async false
set_option linter.all false
set_option maxRecDepth 100000
namespace Kp
open PySem PySem.Spec PyProof.Rows L2 SlX
/-- the methods of Machine -/
structure Mm (P : Program) (w : World) (K : PySem.W.Frag) (mg : Str → Option Value) (base : Heap) (C : Addr) : Prop where
  m : Mc K mg C
  len : ∃ g, PySem.W.findIn K (.ref C) "__len__" = some (some (.ref g)) ∧ PySem.W.isFn K (.ref g) = true ∧ FnR P w K mg base CX0 1 g (spMLen K C)
  inp : ∃ g, Meth K C "inputs" g ∧ FnR P w K mg base CX0 1 g (spMInputs K C)
  stp : ∃ g, Meth K C "step" g ∧ FnR P w K mg base CX0 1 g (spMStep K C)
/-- two machines of the same inputs that stand -/
structure Two (K : PySem.W.Frag) (C : Addr) (G : Hp) (v1 v2 : V) (ss : List Str) (r1 r2 : List Row) : Prop where
  a : Ma K C G v1 ss r1
  b : Ma K C G v2 ss r2
  i : OkIns ss
  o1 : OkRules ss r1
  o2 : OkRules ss r2
def spPairBehind (K : PySem.W.Frag) (C : Addr) : Sp := fun vs H Q _ => ∃ (v1 v2 : V) (t : Addr) (k : Str) (G : Hp) (ss : List Str) (r1 r2 : List Row) (p : Pr), vs = [v1, v2, .ref t, .str k] ∧ Same G H ∧ Two K C G v1 v2 ss r1 r2 ∧ SqT K H t [.int p.1, .int p.2] ∧ inR r1.length r2.length p ∧ k ∈ ss ∧
  (agree r1 r2 p k → ∀ q, H q = none → Q (.ref q) (upd H q (.tup [.int (nx r1 r2 p k).1, .int (nx r1 r2 p k).2]))) ∧ (¬ agree r1 r2 p k → Q .non H)
section
variable {P : Program} {w : World} {K : PySem.W.Frag} {mg : Str → Option Value} {base : Heap} {C : Addr}
/-- what step asks and gives -/
theorem step_of {G : Hp} {ss : List Str} {rs : List Row} {q : Int} {k : Str} (o : OkRules ss rs) (q0 : 0 ≤ q) (q1 : q < rs.length) (hk : k ∈ ss) :
    ∃ r, rs[q.toNat]? = some r ∧ k ∈ r.map (·.1) ∧ ∀ t, DD K G (.ref t) (stD (get r k)) → SqT K G t [.int (stp rs q k).1, .str (stp rs q k).2] := by
  obtain ⟨r, e1, e2, ok⟩ := o.row q0 q1
  refine ⟨r, e1, ok.keys.mem_iff.mpr hk, fun t ht => ?_⟩
  obtain ⟨t', e3, ht⟩ := step_inv ht
  cases e3
  unfold stp
  rw [e2]
  exact ht
abbrev s_pair_behind : Stmt := topS 19
abbrev N_pair_behind : List Str := ["one", "other", "pair", "name", "mine", "its"]
theorem sc_pair_behind : FnScope N_pair_behind ["one", "other", "pair", "name"] (defScope s_pair_behind) := ⟨rfl, rfl, rfl, by decide +kernel, rfl, by decide +kernel, by decide +kernel⟩
theorem ok_pair_behind {f : Addr} {fd : FuncData} (F : Fun K "pair_behind" "pair_behind" s_pair_behind f fd) (M : Mm P w K mg base C) : FnOk P w K mg base CX0 2 f fd ["one", "other", "pair", "name"] (spPairBehind K C) := by
  obtain ⟨g, mg1, Fg⟩ := M.stp
  refine F.ok sc_pair_behind (fun vs H Q E h => ?_) (fun cdv A outer s H vs Q E hr h => ?_)
  · obtain ⟨v1, v2, t, k, G, ss, r1, r2, p, rfl, _⟩ := h
    rfl
  · obtain ⟨v1, v2, t, k, G, ss, r1, r2, p, rfl, e, W, ht, hp, hk, f1, f2⟩ := h
    refine ⟨_, (pss_cons (ps_par (i := 4) (j := 5) (by rfl) sc_pair_behind.nd rfl rfl (by decide) rfl rfl (pa_cons (pe_methSl (pv 0) M.m.cls mg1 Fg hr pass0 (pa_cons (pe_ix ix_tup (pv 2) pe_int (fun _ _ => rfl)) (pa_cons (pv 3) pa_nil))) (pa_cons (pe_methSl (pv 1) M.m.cls mg1 Fg hr pass0 (pa_cons (pe_ix ix_tup (pv 2) pe_int (fun _ _ => rfl)) (pa_cons (pv 3) pa_nil))) pa_nil)) (by rfl))
    (pss_one (ps_ret (pe_ifExp (pt_cmpR op_eq (pe_ix ix_tup (pv 4) pe_int (fun _ _ => rfl)) (pe_ix ix_tup (pv 5) pe_int (fun _ _ => rfl)) (nomark _)) (pe_tup (pa_cons (pe_ix ix_tup (pv 4) pe_int (fun _ _ => rfl)) (pa_cons (pe_ix ix_tup (pv 5) pe_int (fun _ _ => rfl)) pa_nil))) pe_non)))), ?_⟩
    have Wa := W.a
    have Wb := W.b
    obtain ⟨a1, dx1, li1, lr1, rfl, h11, _⟩ := Wa
    obtain ⟨a2, dx2, li2, lr2, rfl, h21, _⟩ := Wb
    obtain ⟨q1, e11, e12, s1⟩ := step_of (K := K) (G := G) W.o1 hp.1.1 hp.1.2 hk
    obtain ⟨q2, e21, e22, s2⟩ := step_of (K := K) (G := G) W.o2 hp.2.1 hp.2.2 hk
    refine ⟨_, rfl, a1, dx1, _, rfl, slt_up e h11, _, rfl, t, _, _, .int p.1, rfl, rfl, ht, rfl, _, rfl, _, G, ss, r1, p.1, k, q1, rfl, e, W.a, hp.1.1, e11, e12, fun t1 ht1 => ?_⟩
    refine ⟨_, rfl, a2, dx2, _, rfl, slt_up e h21, _, rfl, t, _, _, .int p.2, rfl, rfl, ht, rfl, _, rfl, _, G, ss, r2, p.2, k, q2, rfl, e, W.b, hp.2.1, e21, e22, fun t2 ht2 => ?_⟩
    have g1 := sqT_up e (s1 t1 ht1)
    have g2 := sqT_up e (s2 t2 ht2)
    refine ⟨_, _, rfl, _, rfl, t1, _, _, .str _, rfl, rfl, g1, rfl, _, rfl, t2, _, _, .str _, rfl, rfl, g2, rfl, rfl, _, rfl, ite2 (fun c => ?_) fun c => ?_⟩
    · have ag : agree r1 r2 p k := by
        have c' := of_decide_eq_true c
        injection c'
      exact ⟨_, rfl, t1, _, _, .int _, rfl, rfl, g1, rfl, _, rfl, t2, _, _, .int _, rfl, rfl, g2, rfl, (by show 2 ≤ sizeLine; decide), f1 ag⟩
    · refine f2 fun ag => c (decide_eq_true ?_)
      exact congrArg V.str ag
end
end Kp

set_option Elab.async false
set_option linter.all false
set_option maxRecDepth 100000
namespace Kp
open PySem PySem.Spec PyProof.Rows L2 SlX
/-! ### an own exception over ValueError whose __init__ says super().__init__(), no more -/
/-- the text of that __init__ -/
abbrev s_Uinit : Stmt := inClass (topS 4) 0
abbrev veTail : List Value := [.type "ValueError", .type "Exception", .type "BaseException", .type "object"]
/-- what of the text such a class must have -/
structure Ul (prog : Program) (K : PySem.W.Frag) (mg : Str → Option Value) (x q : Str) (C fI : Addr) : Prop where
  g : mg x = some (.ref C)
  kp : PySem.W.keepIn K (.ref C) = true
  bC : PySem.W.subIn K (.ref C) (.type "BaseException") = some true
  tC : PySem.W.typeIn K (.ref C) = some (.type "type")
  ini : PySem.W.excInitIn K C veTail "ValueError.__new__" = true
  look : PySem.W.findIn K (.ref C) "__init__" = some (some (.ref fI))
  tI : PySem.W.typeIn K (.ref fI) = some (.type "function")
  sup : PySem.W.ks_superIn K C C "__init__" = some (some (.builtin "ValueError.__init__"))
  sub : PySem.W.subIn K (.ref C) (.type "ValueError") = some true
  mro : PySem.W.mroIn K C (.ref C) = some true
  thr : PySem.W.nsIn K cStatics "thirdparty.any" = some none
  no : mg "super" = none
  top : (prog.main.scope.names.lookup ("super" : Str)).isSome = false
  fn : ∃ (oc ccl cl doc pm ct : Value) (od cdd cld an : Option Addr) (osl ccs csl : Array (Option Value)) (vs : Array Value) (file : Str) (tf : Tok) (cda cc : Addr),
    K.lookup fI = some ⟨oc, od, .func (PySem.W.ksFn "__init__" q (defArgs s_Uinit) (defBody s_Uinit) (defScope s_Uinit) .none .none doc pm an (.ref cda) ct cc), osl⟩ ∧ PySem.W.codeIn K (.ref cda) q = true ∧
    K.lookup cda = some ⟨ccl, cdd, .fields vs, ccs⟩ ∧ vs[2]? = some (.str file tf) ∧ ((prog.main.file : Str) == file) = true ∧ K.lookup cc = some ⟨cl, cld, .cell (some (.ref C)), csl⟩
section
variable {prog : Program} {w : World} {A : Around} {E : Value → Shared → Prop} {R : Result → Shared → Prop} {s : Shared} {K : PySem.W.Frag} {mg mb : Str → Option Value} {x q : Str} {C fI : Addr}
/-- the bound __init__ of ValueError is called -/
theorem ve_call {u e t0 : Addr} {Q : Value → Shared → Prop} (X : K.In s.heap) (ini : PySem.W.excInitIn K C veTail "ValueError.__new__" = true) (he : s.heap.get? e = some (PySem.HandSPX.excO C t0)) (hu : s.heap.get? u = some (PySem.W.kxs_mw "ValueError.__init__" e))
    (hq : ∀ h' t1, (∀ b o, b ≠ e → s.heap.get? b = some o → h'.get? b = some o) → h'.get? e = some (PySem.HandSPX.excO C t1) → Q .none { s with heap := h' }) :
    wpAny (model prog w) A (call (.ref u) []) Q E s := by
  obtain ⟨nm, N, qn, bs, bm, hdct, sn, sub, ab, col, dd, k0, k1, k2, k3, k5, hC, _⟩ := PySem.W.excInit_of X ini
  obtain ⟨hp, g, d, tk, os⟩ := s
  have FB := F.excBase_ValueError
  refine wpAny_call (codeAny_of_tree ?_)
  show wpAny _ A.in1 (callAny (.ref u) ⟨[], []⟩) _ _ _
  unfold callAny
  refine wpAny_bind (wpAny_load hu ?_)
  have m1 : (Value.type "method-wrapper" == Value.type "method" || Value.type "method-wrapper" == Value.type "builtin_function_or_method" || Value.type "method-wrapper" == Value.type "method-wrapper") = true := by decide
  simp only [PySem.W.kxs_mw, m1, if_true]
  refine PySem.W.KFB.if_so (by decide) ?_
  refine wpAny_bind (PySem.W.check_bound_init FB.toExcCallFacts hC he rfl ?_)
  refine wpAny_bind (wpAny_pure (wpAny_pure ⟨plainId_quiet FB.init.plain _, ?_⟩))
  refine codeAny_builtin FB.initEntry ?_
  exact PySem.W.exc_init_tree (cls := .ref C) (t0 := t0) (dv := none) (c2 := .none) (c3 := .none) (b4 := .bool false) he (Nat.zero_le _) fun h' k e1 _ => hq h' _ k e1
/-- that __init__, at a new exception -/
theorem ul_init (T : Ul prog K mg x q C fI) {e t0 : Addr} (X : K.In s.heap) (lim : s.heap.NoLimit) (hg : s.heap.Ns mainGlobals mg) (hb : s.heap.Ns builtinsNs mb) (hs : mb "super" = some (.type "super")) (he : s.heap.get? e = some (PySem.HandSPX.excO C t0)) (room : A.depth < recursionLimit)
    (hq : ∀ h' tk t1, (∀ b o, b ≠ e → s.heap.get? b = some o → h'.get? b = some o) → h'.get? e = some (PySem.HandSPX.excO C t1) → R (.ok (.ret .none)) { s with heap := h', toks := tk }) :
    codeAny (model prog w) A (.call (.ref fI) ⟨[.ref e], []⟩) R s := by
  obtain ⟨oc, ccl, cl, doc, pm, ct, od, cdd, cld, an, osl, ccs, csl, vs, file, tf, cda, cc, hf, hcode, hcda, hvs, hfile, hcc⟩ := T.fn
  obtain ⟨nm, N, qn, bs, bm, hdct, sn, sub, ab, col, dd, k0, k1, k2, k3, k5, hC, _⟩ := PySem.W.excInit_of X T.ini
  refine ks_codeAny_call_defAt (fd := PySem.W.ksFn "__init__" q (defArgs s_Uinit) (defBody s_Uinit) (defScope s_Uinit) .none .none doc pm an (.ref cda) ct cc) (body := defBody s_Uinit) (binds := [("self", .ref e)]) room (X _ _ hf) rfl lim (PySem.W.codeRec_of X hcode) rfl (BindsTo.of_eq (by first | rfl | with_unfolding_all rfl)) (show ∀ y ∈ (defScope s_Uinit).names, y.2 ≠ .cell by decide) (fun y hy => by rw [List.mem_singleton.mp hy]; rfl) (fun h1 ns k => ?_)
  have X1 : K.In h1 := X.keeps k
  have he1 := k _ _ he
  have hC1 := k _ _ hC
  refine ks_wpAt_execs_cons (ks_wpAt_Expr_any (ks_wpAt_MethodCall ?_))
  refine ks_wpAt_super_base (of := _) (fd := PySem.W.ksFn "__init__" q (defArgs s_Uinit) (defBody s_Uinit) (defScope s_Uinit) .none .none doc pm an (.ref cda) ct cc) rfl rfl (by decide) rfl (X1 _ _ hf) rfl rfl rfl (X1 _ _ hcda) rfl hvs hfile T.top ?_
  refine PySem.W.ks_loadName_global rfl rfl (Calls.loadGlobal_builtin (hg.keeps k) T.no (hb.keeps k) hs ⟨rfl, ?_⟩)
  refine wpAny_loadName_free rfl rfl rfl ⟨_, X1 _ _ hcc, rfl⟩ ?_
  refine wpAny_loadName_local rfl rfl ns (v := .ref e) rfl ?_
  refine ks_wpAny_isType_cls hC1 rfl ⟨rfl, ?_⟩
  refine ks_wpAny_call_super hC1 rfl he1 rfl (fun c z => by cases z) (PySem.W.looks_mroIn X1 T.mro) (fun h2 so k2 => ?_)
  have X2 : K.In h2 := X1.keeps k2
  have he2 := k2 _ _ he1
  have hC2 := k2 _ _ hC1
  have sup := T.sup
  unfold PySem.W.ks_superIn at sup
  cases hcl : PySem.W.clsIn K C with
  | none => rw [hcl] at sup; cases sup
  | some cd =>
    rw [hcl] at sup
    have eC : e ≠ C := fun z => by
      rw [z, hC] at he
      cases he
    have hI : PySem.W.Looks (model prog w) h2 (isInstance (.ref e) (.type "ValueError")) true := by
      have I : PySem.W.InstAt h2 e (PySem.HandSPX.excO C t0) C none := ⟨he2, rfl, rfl, trivial⟩
      exact I.type.andThen (PySem.W.looks_subIn X2 T.sub)
    refine PySem.W.kxs_getMethod PySem.W.kxs_ValueError so (PySem.W.looks_opaque X2 T.thr) (l₀ := cd.mro) (fun A Q E s k q => wpAny_bind ((PySem.W.looks_clsIn X2 hcl) A _ E s k (wpAny_pure q))) rfl X2 sup hI eC (by decide) ?_
    have mw : (h2.push (PySem.W.kxs_mw "ValueError.__init__" e)).get? h2.objs.size = some (PySem.W.kxs_mw "ValueError.__init__" e) := Heap.get?_push_at rfl rfl
    have k3 : ∀ b o, h2.get? b = some o → (h2.push (PySem.W.kxs_mw "ValueError.__init__" e)).get? b = some o := fun b o z => Heap.get?_push_of_some _ z
    refine PySem.W.kxs_callWith (i := "ValueError.__init__") (x := e) rfl (evalArgs_empty ⟨mw, ?_⟩)
    refine ve_call (X2.keeps k3) T.ini (k3 _ _ he2) mw fun h' t1 k4 e4 => ?_
    refine wpAt_of_wpAny (wpAny_execs_nil ?_)
    refine hq h' _ t1 (fun b o hb z => k4 b o hb (k3 _ _ (k2 _ _ (k _ _ z)))) e4
/-- the class is called -/
theorem ul_made (T : Ul prog K mg x q C fI) (X : K.In s.heap) (lim : s.heap.NoLimit) (hg : s.heap.Ns mainGlobals mg) (hb : s.heap.Ns builtinsNs mb) (hs : mb "super" = some (.type "super")) (room : A.depth + 1 < recursionLimit)
    (hq : ∀ h' tk e t1, (∀ b o, s.heap.get? b = some o → h'.get? b = some o) → s.heap.get? e = none → s.heap.objs.size ≤ e → h'.get? e = some (PySem.HandSPX.excO C t1) → R (.ok (.ret (.ref e))) { s with heap := h', toks := tk }) :
    codeAny (model prog w) A (.call (.ref C) ⟨[], []⟩) R s := by
  obtain ⟨nm, N, qn, bs, bm, hdct, sn, sub, ab, col, dd, k0, k1, k2, k3, k5, hC, hT⟩ := PySem.W.excInit_of X T.ini
  obtain ⟨hp, g, d, tk, os⟩ := s
  have n0 : hp.get? (hp.objs.size + 1) = none := by
    cases z : hp.get? (hp.objs.size + 1) with
    | none => rfl
    | some o => exact absurd (Nat.lt_of_succ_lt (Heap.lt_size z)) (Nat.lt_irrefl _)
  have k : ∀ b o, hp.get? b = some o → ((hp.push (PySem.W.kdv_tup [])).push (PySem.HandSPX.excO C hp.objs.size)).get? b = some o := fun b o e => Heap.get?_push_of_some _ (Heap.get?_push_of_some _ e)
  have hget : ((hp.push (PySem.W.kdv_tup [])).push (PySem.HandSPX.excO C hp.objs.size)).get? (hp.objs.size + 1) = some (PySem.HandSPX.excO C hp.objs.size) := by heap_get
  refine PySem.HandSPX.call_own F.excBase_ValueError hT hC (PySem.W.looks_findIn X T.look) (fun self => PySem.W.bind_fn X self T.tI) (Nat.zero_le _) ?_
  refine ul_init (s := ⟨(hp.push (PySem.W.kdv_tup [])).push (PySem.HandSPX.excO C hp.objs.size), g, d, tk, os⟩) T (X.keeps k) (lim.keeps k) (hg.keeps k) (hb.keeps k) hs hget room fun h' tk' t1 k' e' => ?_
  exact ⟨rfl, hq h' tk' _ t1 (fun b o z => k' b o (fun y => by rw [y, n0] at z; cases z) (k b o z)) n0 (Nat.le_succ _) e'⟩
end
/-- Unlike(), as a raise wants it -/
theorem pmk_ul {X : Cx} {x q : Str} {U fI : Addr} {p pos : Pos} (T : Ul X.prog X.K X.mg x q U fI) (hr : Room 1 X.A) (hg : Gl X x := by rfl) (hdb : (x == ("__debug__" : Str)) = false := by decide) : PMk X (.Call (.Name x p) [] [] pos) (fun _ H Q => Q (.ref U) none H) := by
  intro pins s σ H Q I h
  obtain ⟨mb, b1, b2⟩ := I.mod.blt
  refine wpAny_Call_Name_kw (ld_glob I hg T.g ?_ hdb)
  refine PySem.W.callWith_K0 I.kIn T.kp ?_
  refine wpAny_call (ul_made (mb := mb) T I.kIn I.nolimit (I.mod.glob.keeps I.bk) (b1.keeps I.bk) (b2 "super" (by decide)) (by have := hr.dp; omega) fun h' tk e t1 k n0 big he => ?_)
  refine ⟨e, _, _, s, H, .ref U, none, rfl, I, k, n0, he, ⟨rfl, rfl⟩, rfl, rfl, I.hok.fresh big, rfl, I.bare, raises_own T.bC T.tC, h⟩
theorem eqv_strs : ∀ (xs ys : List Str), PyData.eqvAll (xs.map PyData.str) (ys.map PyData.str) = decide (xs = ys)
  | [], [] => by simp [PyData.eqvAll]
  | [], y :: ys => by simp [PyData.eqvAll]
  | x :: xs, [] => by simp [PyData.eqvAll]
  | x :: xs, y :: ys => by
    simp only [List.map_cons, PyData.eqvAll, eqv_strs xs ys, PyData.eqv]
    by_cases h : x = y <;> by_cases h2 : xs = ys <;> simp [h, h2]
theorem eqv_lstrs (xs ys : List Str) : PyData.eqv (.list (xs.map PyData.str)) (.list (ys.map PyData.str)) = decide (xs = ys) := by
  simp only [PyData.eqv, eqv_strs]
end Kp

set_option Elab.async false
set_option linter.all false
set_option maxRecDepth 100000
namespace Kp
open PySem PySem.Spec PyProof.Rows L2 SlX
def spNeedLike (K : PySem.W.Frag) (C U : Addr) : Sp := fun vs H Q E => ∃ (a : Addr) (v1 v2 : V) (G : Hp) (s1 s2 : List Str) (r1 r2 : List Row), vs = [.ref a] ∧ SqL K H a [v1, v2] ∧ Same G H ∧ Ma K C G v1 s1 r1 ∧ Ma K C G v2 s2 r2 ∧ OkIns s1 ∧ OkIns s2 ∧
  (s1 = s2 → ∀ H', Same H H' → Q .non H') ∧ (s1 ≠ s2 → ∀ H', Same H H' → E (.ref U) none H')
section
variable {P : Program} {w : World} {K : PySem.W.Frag} {mg : Str → Option Value} {base : Heap} {C U : Addr}
abbrev s_need_like : Stmt := topS 16
abbrev N_need_like : List Str := ["machines", "machine"]
theorem sc_need_like : FnScope N_need_like ["machines"] (defScope s_need_like) := ⟨rfl, rfl, rfl, by decide +kernel, rfl, by decide +kernel, by decide +kernel⟩
theorem ok_need_like {f : Addr} {fd : FuncData} {q : Str} {fI : Addr} (F : Fun K "need_like" "need_like" s_need_like f fd) (T : Bi mg) (M : Mm P w K mg base C) (L : Ul P K mg "Unlike" q U fI) : FnOk P w K mg base (L2.CX P w) 2 f fd ["machines"] (spNeedLike K C U) := by
  obtain ⟨g, mi, Fi⟩ := M.inp
  refine F.okX sc_need_like (fun vs H Q E h => ?_) (fun cdv A outer s H vs Q E hr h => ?_)
  · obtain ⟨a, v1, v2, G, s1, s2, r1, r2, rfl, _⟩ := h
    rfl
  · obtain ⟨a, v1, v2, G, s1, s2, r1, r2, rfl, hs, e0, m1, m2, o1, o2, f1, f2⟩ := h
    refine ⟨_, (pss_one (ps_if (pt_val (pe_callB (cr_any rfl) (by rfl) T.b_any (by decide +kernel) (pa_cons (pe_lc (own := [("machine", 1)]) (by rfl) sc_need_like.nd (pi_list (pv 0)) (blkOk_by (N := N_need_like) (sc := defScope s_need_like) (by decide +kernel)) (fun _ _ _ _ _ => (pg_name (i := 1) sc_need_like.nd rfl (.inl rfl))) (fun _ _ _ _ _ => pts_nil) (fun _ _ _ _ _ => (pe_cmpR (neD_k (K := K) hr.units) (pe_methSl0 (pv 1) M.m.cls mi Fi hr pass0) (pe_methSl0 (pe_ix (ixl_k (K := K)) (pv 0) pe_int (fun _ _ => rfl)) M.m.cls mi Fi hr pass0) (nomark _)))) pa_nil)))
      (pss_one (ps_raise rfl (takes_of rfl rfl rfl rfl) (pmk_ul L hr)))
      pss_nil)), ?_⟩
    let bs : List Bool := [!decide (s1 = s1), !decide (s2 = s1)]
    refine ⟨_, rfl, a, rfl, ⟨_, hs⟩, fun D nD => ?_⟩
    have big : 1000 ≤ sizeLine := by decide
    refine lc_list (xs := [v1, v2]) (fun i H' => Same H H' ∧ H' D = some (.lst ((bs.take i).map V.bl))) ⟨same_new nD, upd_same⟩ (fun i H' _ e => e.1.seq hs) ?_ ?_
    · rintro i x H' hx ⟨e1, e2⟩
      obtain ⟨si, ri, mi', oi, hb⟩ : ∃ si ri, Ma K C G x si ri ∧ OkIns si ∧ bs[i]? = some (!decide (si = s1)) := by
        match i, hx with
        | 0, hx => cases hx; exact ⟨s1, r1, m1, o1, rfl⟩
        | 1, hx => cases hx; exact ⟨s2, r2, m2, o2, rfl⟩
      have ilt : i < 2 := (List.getElem?_eq_some_iff.mp hx).1
      have eG := e0.trans e1
      have mi2 := mi'
      obtain ⟨ax, dx, lx, rx, rfl, hx1, _⟩ := mi2
      have mv1 := m1
      obtain ⟨a1, d1, l1, q1, rfl, h11, _⟩ := mv1
      refine ⟨rfl, _, rfl, ax, dx, _, rfl, slt_up eG hx1, _, G, si, ri, rfl, eG, mi', fun p np => ?_⟩
      have e3 := eG.trans (same_new (o := .lst (si.map V.str)) np)
      refine ⟨_, rfl, a, _, _, .ref a1, rfl, rfl, (e1.trans (same_new np)).seq hs, rfl, a1, d1, _, rfl, slt_up e3 h11, _, G, s1, r1, rfl, e3, m1, fun p2 np2 => ?_⟩
      refine ⟨_, _, (dd_strs ((same_new np2).seq (SqL.of upd_same))).dp (plain_strs si), (dd_strs (SqL.of upd_same)).dp (plain_strs s1), shaped_names oi.ok, shaped_names o1.ok, ?_⟩
      rw [eqv_lstrs]
      have e4 := (same_new (o := .lst (si.map V.str)) np).trans (same_new (o := .lst (s1.map V.str)) np2)
      refine ⟨_, e4 _ _ e2, by simp; omega, same_chg (e1.trans e4) nD, ?_⟩
      rw [upd_same, show bs.take (i + 1) = bs.take i ++ [!decide (si = s1)] by rw [List.take_succ, hb]; rfl, List.map_append]
      rfl
    · rintro H' ⟨e1, e2⟩
      refine ⟨D, bs, rfl, SqL.of e2, _, rfl, ?_⟩
      by_cases c : s1 = s2
      · have hb : bs.any id = false := by simp [bs, c]
        rw [hb]
        exact iteF (f1 c _ e1)
      · have hb : bs.any id = true := by
          have : ¬ s2 = s1 := fun z => c z.symm
          simp [bs, this]
        rw [hb]
        exact iteT (f2 c _ e1)
end
end Kp

set_option Elab.async false
set_option linter.all false
set_option maxRecDepth 100000
namespace Kp
open PySem PySem.Spec PyProof.Rows L2
theorem Room.u65 {k : Nat} {A : Around} (r : Room k A) : A.units + 65 < cLine := by have := r.un; omega
/-! ### lists of tuples of two ints, sorted -/
def TupsAt (H : Hp) (vs : List V) (ms : List Pr) : Prop := vs.length = ms.length ∧ ∀ (i : Nat) (v : V) (p : Pr), vs[i]? = some v → ms[i]? = some p → ∃ t, v = .ref t ∧ H t = some (.tup [.int p.1, .int p.2])
section
variable {K : PySem.W.Frag} {G G' : Hp} {vs : List V} {ms : List Pr}
theorem TupsAt.nil : TupsAt G [] [] := ⟨rfl, fun i v p h => by simp at h⟩
theorem TupsAt.up (h : TupsAt G vs ms) (e : Same G G') : TupsAt G' vs ms := ⟨h.1, fun i v p a b => by
  obtain ⟨t, e1, e2⟩ := h.2 i v p a b
  exact ⟨t, e1, e _ _ e2⟩⟩
theorem TupsAt.snoc (h : TupsAt G vs ms) {t : Addr} {p : Pr} (ht : G t = some (.tup [.int p.1, .int p.2])) : TupsAt G (vs ++ [.ref t]) (ms ++ [p]) := by
  refine ⟨by simp [h.1], fun i v q a b => ?_⟩
  rcases Nat.lt_trichotomy i vs.length with c | c | c
  · rw [List.getElem?_append_left c] at a
    rw [List.getElem?_append_left (by rw [← h.1]; exact c)] at b
    exact h.2 i v q a b
  · rw [List.getElem?_append_right (by omega)] at a
    rw [List.getElem?_append_right (by rw [← h.1]; omega)] at b
    rw [c, Nat.sub_self] at a
    rw [c, h.1, Nat.sub_self] at b
    cases a
    cases b
    exact ⟨t, rfl, ht⟩
  · have := (List.getElem?_eq_some_iff.mp a).1
    simp at this
    omega
theorem TupsAt.get (h : TupsAt G vs ms) {i : Nat} {p : Pr} (e : ms[i]? = some p) : ∃ t, vs[i]? = some (.ref t) ∧ G t = some (.tup [.int p.1, .int p.2]) := by
  have lt := (List.getElem?_eq_some_iff.mp e).1
  have lv : i < vs.length := by rw [h.1]; exact lt
  obtain ⟨t, e1, e2⟩ := h.2 i _ p (List.getElem?_eq_getElem lv) e
  exact ⟨t, by rw [List.getElem?_eq_getElem lv, e1], e2⟩
theorem TupsAt.dds (h : TupsAt G vs ms) : DDs K G vs (ms.map pairD) := by
  refine DDs.of (by rw [List.length_map]; exact h.1) fun i v d a b => ?_
  rw [List.getElem?_map] at b
  cases e : ms[i]? with
  | none => rw [e] at b; cases b
  | some p =>
    rw [e] at b
    obtain rfl := Option.some.inj b
    obtain ⟨t, rfl, ht⟩ := h.2 i v p a e
    exact DD.pair (SqT.of ht)
/-- the pair that a value is -/
def kP (H : Hp) (v : V) : Pr := match v with
  | .ref t => (match H t with | some (.tup [.int i, .int j]) => (i, j) | _ => (0, 0))
  | _ => (0, 0)
theorem kP_of {H : Hp} {t : Addr} {p : Pr} (h : H t = some (.tup [.int p.1, .int p.2])) : kP H (.ref t) = p := by
  show (match H t with | some (.tup [.int i, .int j]) => (i, j) | _ => (0, 0)) = p
  rw [h]
theorem TupsAt.keys (h : TupsAt G vs ms) : vs.map (kP G) = ms := by
  apply List.ext_getElem? 
  intro i
  rw [List.getElem?_map]
  cases e : ms[i]? with
  | none =>
    have : ms.length ≤ i := List.getElem?_eq_none_iff.mp e
    rw [List.getElem?_eq_none_iff.mpr (by rw [h.1]; exact this)]
    rfl
  | some p =>
    obtain ⟨t, e1, e2⟩ := h.get e
    rw [e1]
    show some (kP G (.ref t)) = _
    rw [kP_of e2]
theorem TupsAt.mem (h : TupsAt G vs ms) {v : V} (hv : v ∈ vs) : ∃ t, v = .ref t ∧ G t = some (.tup [.int (kP G v).1, .int (kP G v).2]) := by
  obtain ⟨i, e⟩ := List.mem_iff_getElem?.mp hv
  have lt := (List.getElem?_eq_some_iff.mp e).1
  have lm : i < ms.length := by rw [← h.1]; exact lt
  obtain ⟨t, rfl, e2⟩ := h.2 i v _ e (List.getElem?_eq_getElem lm)
  refine ⟨t, rfl, ?_⟩
  rw [kP_of e2]
  exact e2
/-- .. in another order -/
theorem TupsAt.perm (h : TupsAt G vs ms) {ys : List V} (p : ys.Perm vs) : TupsAt G ys (ys.map (kP G)) ∧ (ys.map (kP G)).Perm ms := by
  refine ⟨⟨by rw [List.length_map], fun i v q a b => ?_⟩, by rw [← h.keys]; exact p.map _⟩
  rw [List.getElem?_map, a] at b
  obtain ⟨t, rfl, e⟩ := h.mem (p.mem_iff.mp (List.mem_of_getElem? a))
  refine ⟨t, rfl, ?_⟩
  obtain rfl := Option.some.inj b
  exact e
end
/-- ascending -/
def leP (p q : Pr) : Prop := SrtO.lexB q p = false
theorem leP_iff {p q : Pr} : leP p q ↔ ¬ (q.1 < p.1 ∨ (q.1 = p.1 ∧ q.2 < p.2)) := by
  unfold leP
  rw [← SrtO.lexB_iff, Bool.not_eq_true]
theorem leP_anti {p q : Pr} (h1 : leP p q) (h2 : leP q p) : p = q := by
  rw [leP_iff] at h1 h2
  obtain ⟨a, b⟩ := p
  obtain ⟨c, d⟩ := q
  have e1 : a = c := by
    simp only at h1 h2
    omega
  subst e1
  have e2 : b = d := by
    simp at h1 h2
    omega
  subst e2
  rfl
theorem sortP_eq {l m : List Pr} (hl : l.Pairwise leP) (hm : m.Pairwise leP) (p : l.Perm m) : l = m := p.eq_of_pairwise (fun _ _ _ _ h1 h2 => leP_anti h1 h2) hl hm
theorem srtd_keys {H : Hp} {ys : List V} (h : SrtO.Srtd (ltP (kP H)) ys) : (ys.map (kP H)).Pairwise leP := List.Pairwise.map _ (fun _ _ h => h) h
end Kp

set_option Elab.async false
set_option linter.all false
set_option maxRecDepth 100000
namespace Kp
open PySem PySem.Spec PyProof.Rows L2 SlX
/-- do two machines say the same wherever they are met -/
def AllAg (ss : List Str) (r1 r2 : List Row) : Prop := ∀ p, Reach ss r1 r2 p → ∀ k ∈ ss, agree r1 r2 p k
/-- two machines handed in -/
structure TwoM (K : PySem.W.Frag) (C : Addr) (G : Hp) (v1 v2 : V) (s1 s2 : List Str) (r1 r2 : List Row) : Prop where
  a : Ma K C G v1 s1 r1
  b : Ma K C G v2 s2 r2
  i1 : OkIns s1
  i2 : OkIns s2
  o1 : OkRules s1 r1
  o2 : OkRules s2 r2
theorem TwoM.two {K : PySem.W.Frag} {C : Addr} {G : Hp} {v1 v2 : V} {ss : List Str} {r1 r2 : List Row} (t : TwoM K C G v1 v2 ss ss r1 r2) : Two K C G v1 v2 ss r1 r2 := ⟨t.a, t.b, t.i1, t.o1, t.o2⟩
/-- the pairs met, ascending, at a new list -/
def PairsOut (G H : Hp) (ss : List Str) (r1 r2 : List Row) : Hp → Hp → V → Prop := fun G' H' v => ∃ p vs ms, v = .ref p ∧ H p = none ∧ G' p = none ∧ H' p = some (.lst vs) ∧ TupsAt G' vs ms ∧ ms.Nodup ∧ ms.Pairwise leP ∧ ∀ q, q ∈ ms ↔ Reach ss r1 r2 q
def spPairs (K : PySem.W.Frag) (C U : Addr) : Sp := fun vs H Q E => ∃ (v1 v2 : V) (G : Hp) (s1 s2 : List Str) (r1 r2 : List Row), vs = [v1, v2] ∧ Same G H ∧ TwoM K C G v1 v2 s1 s2 r1 r2 ∧
  (s1 = s2 → (AllAg s1 r1 r2 → Go G H (PairsOut G H s1 r1 r2) Q) ∧ (¬ AllAg s1 r1 r2 → ∀ H', Same H H' → Q .non H')) ∧ (s1 ≠ s2 → ∀ H', Same H H' → E (.ref U) none H')
section
variable {P : Program} {w : World} {K : PySem.W.Frag} {mg : Str → Option Value} {base : Heap} {C U : Addr}
abbrev CPairBehind (P : Program) (w : World) (K : PySem.W.Frag) (mg : Str → Option Value) (base : Heap) (C : Addr) : Prop := Cal P w K mg base CX0 2 "pair_behind" ["one", "other", "pair", "name"] (spPairBehind K C)
abbrev CNeedLike (P : Program) (w : World) (K : PySem.W.Frag) (mg : Str → Option Value) (base : Heap) (C U : Addr) : Prop := Cal P w K mg base (L2.CX P w) 2 "need_like" ["machines"] (spNeedLike K C U)
abbrev s_pairs : Stmt := topS 20
abbrev N_pairs : List Str := ["one", "other", "found", "at", "name", "later"]
theorem sc_pairs : FnScope N_pairs ["one", "other"] (defScope s_pairs) := ⟨rfl, rfl, rfl, by decide +kernel, rfl, by decide +kernel, by decide +kernel⟩
theorem ok_pairs {f : Addr} {fd : FuncData} (F : Fun K "pairs" "pairs" s_pairs f fd) (T : Bi mg) (M : Mm P w K mg base C) (CP : CPairBehind P w K mg base C) (CN : CNeedLike P w K mg base C U) : FnOk P w K mg base (L2.CX P w) 3 f fd ["one", "other"] (spPairs K C U) := by
  obtain ⟨g, mi, Fi⟩ := M.inp
  refine F.okX sc_pairs (fun vs H Q E h => ?_) (fun cdv A outer s H vs Q E hr h => ?_)
  · obtain ⟨v1, v2, G, s1, s2, r1, r2, rfl, _⟩ := h
    rfl
  · obtain ⟨v1, v2, G, s1, s2, r1, r2, rfl, e0, W, hl, hu⟩ := h
    refine ⟨_, (pss_cons (ps_expr (pe_cal (E := E) CN hr (passes_call (takes_of rfl rfl rfl rfl) (fun _ _ _ _ h => h)) (pa_cons (pe_lst (pa_cons (pv 0) (pa_cons (pv 1) pa_nil))) pa_nil)))
    (pss_cons (ps_par (i := 2) (j := 3) (by rfl) sc_pairs.nd rfl rfl (by decide) rfl rfl (pa_cons (pe_lst (pa_cons (pe_tup (pa_cons pe_int (pa_cons pe_int pa_nil))) pa_nil)) (pa_cons pe_int pa_nil)) (by rfl))
    (pss_cons (ps_while (passes_of rfl) (pt_cmpR op_lt (pv 3) (pe_callB call_len_seq (by rfl) T.b_len (by decide +kernel) (pa_cons (pv 2) pa_nil)) (nomark _))
      (pss_cons (ps_for (passes_of rfl) rfl (pi_list (pe_methSl0 (pv 0) M.m.cls mi Fi (hr.mono (by decide)) pass0)) (pg_name (i := 4) sc_pairs.nd rfl (.inl rfl))
        (pss_cons (ps_set (i := 5) sc_pairs.nd rfl (.inl rfl) (pe_cal CP hr pass0 (pa_cons (pv 0) (pa_cons (pv 1) (pa_cons (pe_ix ix_list (pv 2) (pv 3) (fun _ _ => rfl)) (pa_cons (pv 4) pa_nil))))))
        (pss_cons (ps_if (pt_cmpR op_isN (pv 5) pe_non (nomark _))
          (pss_one (ps_ret pe_non))
          pss_nil)
        (pss_one (ps_if (pt_cmpR (op_notInD (Room.u65 hr)) (pv 5) (pv 2) rfl)
          (pss_one (ps_expr (pe_bm PySem.F.plainAttrs_list PySem.F.slot_list_append PySem.F.type_list_append mt_append (pv 2) (pa_cons (pv 5) pa_nil))))
          pss_nil)))))
      (pss_one (ps_aug (i := 3) sc_pairs.nd rfl (.inl rfl) pe_int ip_add))))
    (pss_one (ps_ret (pe_callB cr_sortedPO (by rfl) T.b_sorted (by decide +kernel) (pa_cons (pv 2) pa_nil))))))), ?_⟩
    refine ⟨_, rfl, _, rfl, (by show 2 ≤ sizeLine; decide), fun l nl => ?_⟩
    refine ⟨l, v1, v2, G, s1, s2, r1, r2, rfl, SqL.of upd_same, e0.trans (same_new nl), W.a, W.b, W.i1, W.i2, fun es H1 e1' => ?_, fun ne H1 e1' => hu ne H1 ((same_new nl).trans e1')⟩
    have e1 := (same_new (o := .lst [v1, v2]) nl).trans e1'
    clear e1' nl
    subst es
    obtain ⟨h1, h2⟩ := hl rfl
    obtain ⟨a1, dx1, _, _, rfl, hs1, _⟩ := W.a
    refine ⟨(by show 2 ≤ sizeLine; decide), fun t nt => ⟨(by show 1 ≤ sizeLine; decide), fun p np => ⟨_, _, rfl, ?_⟩⟩⟩
    have nt0 := e1.free nt
    have np0 : H p = none := Same.free (same_chg e1 nt0) np
    have pt : t ≠ p := fun z => by rw [z, upd_same] at np; cases np
    have g0 : Gr W0 G H (upd G t (.tup [.int 0, .int 0])) (upd (upd H1 t (.tup [.int 0, .int 0])) p (.lst [.ref t])) :=
      ((Gr.pure e0 e1).add nt0 nt).chg (by rw [upd_ne pt.symm]; exact none_of e0 np0) (.inr np0)
    have lt1 := W.o1.few
    have lt2 := W.o2.few
    have bnd : r1.length * r2.length ≤ 63 * 63 := Nat.mul_le_mul (by omega) (by omega)
    have sl : 10000 ≤ sizeLine := by decide
    have few : ∀ {ms : List Pr} {n : Nat} {ks : List Str}, Bfs s1 (nx r1 r2) (Reach s1 r1 r2) (agree r1 r2) ms n ks → ms.length ≤ r1.length * r2.length := fun b => few_pairs b.nd fun q hq => (b.rch q hq).inR W.o1 W.o2
    refine ⟨fun m σ' H' => ∃ (n : Nat) (ms : List Pr) (vs : List V) (G' : Hp) (c4 c5 : Option V), m + n = r1.length * r2.length ∧ n ≤ ms.length ∧ σ' = [some (.ref a1), some v2, some (.ref p), some (.int n), c4, c5] ∧ Gr W0 G H G' H' ∧ G' p = none ∧ H' p = some (.lst vs) ∧ TupsAt G' vs ms ∧ Bfs s1 (nx r1 r2) (Reach s1 r1 r2) (agree r1 r2) ms n [], ?_, ?_⟩
    · refine ⟨_, 0, [(0, 0)], [.ref t], _, none, none, rfl, by simp, rfl, g0, ?_, upd_same, ?_, Bfs.zero .start⟩
      · rw [upd_ne pt.symm]; exact none_of e0 np0
      · exact TupsAt.nil.snoc (p := (0, 0)) upd_same
    · rintro m σ' H' ⟨n, ms, vs, G', c4, c5, hm, hn, rfl, g, gp, hp, tv, b⟩
      refine ⟨_, rfl, _, rfl, p, vs, rfl, .inl (SqL.of hp), _, _, rfl, rfl, _, rfl, ite2 (fun c => ?_) fun c => ?_⟩
      · have c' : n < ms.length := by
          have := of_decide_eq_true c
          rw [tv.1] at this
          omega
        have fm := few b
        refine ⟨fun σ' H' => ∃ (ms : List Pr) (vs : List V) (G' : Hp) (c4 c5 : Option V), n + 1 ≤ ms.length ∧ σ' = [some (.ref a1), some v2, some (.ref p), some (.int (n + 1 : Nat)), c4, c5] ∧ Gr W0 G H G' H' ∧ G' p = none ∧ H' p = some (.lst vs) ∧ TupsAt G' vs ms ∧ Bfs s1 (nx r1 r2) (Reach s1 r1 r2) (agree r1 r2) ms (n + 1) [], ?_, ?_⟩
        · rintro σ' H' ⟨ms, vs, G', c4, c5, r⟩
          exact ⟨m - 1, by omega, n + 1, ms, vs, G', c4, c5, by omega, r⟩
        refine ⟨_, rfl, a1, dx1, _, rfl, slt_up (e0.trans g.has) hs1, _, G, s1, r1, rfl, e0.trans g.has, W.a, fun pl npl => ?_⟩
        refine ⟨pl, rfl, ⟨_, SqL.of upd_same⟩, ?_⟩
        have npl0 := g.has.free npl
        have plp : p ≠ pl := fun z => by rw [← z, hp] at npl; cases npl
        refine for_list (xs := s1.map V.str) (fun i σ' H' => ∃ (ms : List Pr) (vs : List V) (G' : Hp) (c4 c5 : Option V), n < ms.length ∧ σ' = [some (.ref a1), some v2, some (.ref p), some (.int n), c4, c5] ∧ Gr W0 G H G' H' ∧ G' p = none ∧ H' p = some (.lst vs) ∧ TupsAt G' vs ms ∧ Bfs s1 (nx r1 r2) (Reach s1 r1 r2) (agree r1 r2) ms n (s1.take i) ∧ H' pl = some (.lst (s1.map V.str)))
          ⟨ms, vs, G', c4, c5, c', rfl, g.more (same_new npl), gp, by rw [upd_ne plp]; exact hp, tv, b, upd_same⟩ ?_ ?_ ?_
        · rintro i σ' H' _ ⟨ms, vs, G', c4, c5, _, _, _, _, _, _, _, h⟩
          exact SqL.of h
        · rintro i x σ' H' hx ⟨ms, vs, G', c4, c5, c', rfl, g, gp, hp, tv, b, hpl⟩
          obtain ⟨k, hk, rfl⟩ := at_map hx
          have kin := List.mem_of_getElem? hk
          have tk : s1.take (i + 1) = s1.take i ++ [k] := by rw [List.take_succ, hk]; rfl
          obtain ⟨q, hq⟩ : ∃ q, ms[n]? = some q := ⟨ms[n], List.getElem?_eq_getElem c'⟩
          obtain ⟨tq, hv, ht⟩ := tv.get hq
          have rq := b.rch q (List.mem_of_getElem? hq)
          refine ⟨_, rfl, _, rfl, _, rfl, _, rfl, p, vs, _, .ref tq, rfl, rfl, SqL.of hp, at_of rfl hv, _, rfl, ?_⟩
          refine ⟨.ref a1, v2, tq, k, G, s1, r1, r2, q, rfl, e0.trans g.has, W.two, SqT.of (g.fz _ _ ht), rq.inR W.o1 W.o2, kin, fun ag t2 nt2 => ?_, fun nag => ?_⟩
          · have rn := rq.step kin
            have nt20 := g.has.free nt2
            have pt2 : p ≠ t2 := fun z => by rw [← z, hp] at nt2; cases nt2
            have plt2 : pl ≠ t2 := fun z => by rw [← z, hpl] at nt2; cases nt2
            have g2 := g.add (o := .tup [.int (nx r1 r2 q k).1, .int (nx r1 r2 q k).2]) nt20 nt2
            have tv2 := tv.up (same_new (o := .tup [.int (nx r1 r2 q k).1, .int (nx r1 r2 q k).2]) (none_of g.fz nt2))
            refine ⟨_, rfl, rfl, _, rfl, iteF ?_⟩
            refine ⟨_, rfl, _, rfl, pairD (nx r1 r2 q k), ms.map pairD, (DD.pair (SqT.of upd_same)).dp rfl, .lst (SqL.of (by rw [upd_ne pt2]; exact hp)) ((tv2.up g2.fz).dds.dp (plain_pairs ms)), shaped_pair _, shaped_pairs ms, _, rfl, ?_⟩
            rw [any_pair]
            refine ite2 (fun nm => ?_) fun nm => ?_
            · have nm' : nx r1 r2 q k ∉ ms := by simpa using nm
              have b2 := b.new hq nm' rn ag
              have fb := few b2
              simp at fb
              refine ⟨_, rfl, .inl ⟨rfl, _, SqL.of (by rw [upd_ne pt2]; exact hp)⟩, _, rfl, p, vs, _, rfl, rfl, by rw [upd_ne pt2]; exact hp, by rw [tv.1]; omega, ?_⟩
              refine ⟨ms ++ [nx r1 r2 q k], vs ++ [.ref t2], _, _, _, by simp; omega, rfl, g2.chg (by rw [upd_ne pt2]; exact gp) (.inr np0), by rw [upd_ne pt2]; exact gp, upd_same, tv2.snoc upd_same, by rw [tk]; exact b2, ?_⟩
              rw [upd_ne plp.symm, upd_ne plt2]; exact hpl
            · have nm' : nx r1 r2 q k ∈ ms := by simpa using nm
              exact ⟨ms, vs, _, _, _, c', rfl, g2, by rw [upd_ne pt2]; exact gp, by rw [upd_ne pt2]; exact hp, tv2, by rw [tk]; exact b.see hq nm' ag, by rw [upd_ne plt2]; exact hpl⟩
          · refine ⟨_, rfl, rfl, _, rfl, iteT ?_⟩
            exact h2 (fun all => nag (all q rq k kin)) _ g.has
        · rintro σ' H' ⟨ms, vs, G', c4, c5, c', rfl, g, gp, hp, tv, b, hpl⟩
          rw [List.length_map, List.take_length] at b
          refine ⟨_, rfl, _, _, rfl, rfl, ?_⟩
          exact ⟨ms, vs, G', c4, c5, c', rfl, g, gp, hp, tv, b.next (List.getElem?_eq_getElem c')⟩
      · have c' : ms.length ≤ n := by
          have z := c
          simp at z
          rw [tv.1] at z
          exact z
        have cl := b.closed c'
        have allag : AllAg s1 r1 r2 := fun q hq k hk => (cl q (reach_mem b.st (fun q hq k hk => (cl q hq k hk).1) hq) k hk).2
        refine ⟨_, rfl, p, vs, kP G', rfl, SqL.of hp, fun x hx => ?_, fun ys p2 srt stb np2 => ?_⟩
        · obtain ⟨t', e1, e2⟩ := tv.mem hx
          exact ⟨t', e1, g.fz _ _ e2⟩
        · have np20 := g.has.free np2
          have gp2 := none_of g.fz np2
          obtain ⟨tv2, pm⟩ := tv.perm stb.perm
          refine h1 allag G' _ _ (g.chg gp2 (.inr np20)) ⟨p2, ys, ys.map (kP G'), rfl, np20, gp2, upd_same, tv2, pm.nodup_iff.mpr b.nd, srtd_keys srt, fun q => ?_⟩
          rw [pm.mem_iff]
          exact ⟨b.rch q, reach_mem b.st fun q hq k hk => (cl q hq k hk).1⟩
end
end Kp

set_option Elab.async false
set_option linter.all false
set_option maxRecDepth 100000
namespace Kp
open PySem PySem.Spec PyProof.Rows L2 SlX
/-- what waits: pairs with a row each -/
def WaitAt (H : Hp) (vs : List V) (ms : List Pr) : Prop := vs.length = ms.length ∧ ∀ (i : Nat) (v : V) (p : Pr), vs[i]? = some v → ms[i]? = some p → ∃ t l ws, v = .ref t ∧ H t = some (.tup [.int p.1, .int p.2, .ref l]) ∧ H l = some (.lst ws) ∧ ws.length ≤ i
theorem WaitAt.up {G G' : Hp} {vs : List V} {ms : List Pr} (h : WaitAt G vs ms) (e : Same G G') : WaitAt G' vs ms := ⟨h.1, fun i v p a b => by
  obtain ⟨t, l, ws, e1, e2, e3, e4⟩ := h.2 i v p a b
  exact ⟨t, l, ws, e1, e _ _ e2, e _ _ e3, e4⟩⟩
theorem WaitAt.snoc {G : Hp} {vs : List V} {ms : List Pr} (h : WaitAt G vs ms) {t l : Addr} {ws : List V} {p : Pr} (ht : G t = some (.tup [.int p.1, .int p.2, .ref l])) (hl : G l = some (.lst ws)) (hw : ws.length ≤ ms.length) : WaitAt G (vs ++ [.ref t]) (ms ++ [p]) := by
  refine ⟨by simp [h.1], fun i v q a b => ?_⟩
  rcases Nat.lt_trichotomy i vs.length with c | c | c
  · rw [List.getElem?_append_left c] at a
    rw [List.getElem?_append_left (by rw [← h.1]; exact c)] at b
    exact h.2 i v q a b
  · rw [List.getElem?_append_right (by omega)] at a
    rw [List.getElem?_append_right (by rw [← h.1]; omega)] at b
    rw [c, Nat.sub_self] at a
    rw [c, h.1, Nat.sub_self] at b
    cases a
    cases b
    exact ⟨t, l, ws, rfl, ht, hl, by rw [c, h.1]; exact hw⟩
  · have := (List.getElem?_eq_some_iff.mp a).1
    simp at this
    omega
/-- parting_row: None just if they say the same -/
def spParting (K : PySem.W.Frag) (C U : Addr) : Sp := fun vs H Q E => ∃ (v1 v2 : V) (G : Hp) (s1 s2 : List Str) (r1 r2 : List Row), vs = [v1, v2] ∧ Same G H ∧ TwoM K C G v1 v2 s1 s2 r1 r2 ∧
  (s1 = s2 → (AllAg s1 r1 r2 → ∀ H', Same H H' → Q .non H') ∧ (¬ AllAg s1 r1 r2 → ∀ H' p, Same H H' → Q (.ref p) H')) ∧ (s1 ≠ s2 → ∀ H', Same H H' → E (.ref U) none H')
def spSaySame (K : PySem.W.Frag) (C U : Addr) : Sp := fun vs H Q E => ∃ (v1 v2 : V) (G : Hp) (s1 s2 : List Str) (r1 r2 : List Row), vs = [v1, v2] ∧ Same G H ∧ TwoM K C G v1 v2 s1 s2 r1 r2 ∧
  (s1 = s2 → ∀ H' b, Same H H' → (b = true ↔ AllAg s1 r1 r2) → Q (.bl b) H') ∧ (s1 ≠ s2 → ∀ H', Same H H' → E (.ref U) none H')
section
variable {P : Program} {w : World} {K : PySem.W.Frag} {mg : Str → Option Value} {base : Heap} {C U : Addr}
abbrev s_parting_row : Stmt := topS 17
abbrev N_parting_row : List Str := ["one", "other", "waiting", "met", "at", "mine", "its", "row", "name", "left", "right"]
theorem sc_parting_row : FnScope N_parting_row ["one", "other"] (defScope s_parting_row) := ⟨rfl, rfl, rfl, by decide +kernel, rfl, by decide +kernel, by decide +kernel⟩
theorem ok_parting_row {f : Addr} {fd : FuncData} (F : Fun K "parting_row" "parting_row" s_parting_row f fd) (T : Bi mg) (M : Mm P w K mg base C) (CN : CNeedLike P w K mg base C U) : FnOk P w K mg base (L2.CX P w) 3 f fd ["one", "other"] (spParting K C U) := by
  obtain ⟨g, mi, Fi⟩ := M.inp
  obtain ⟨g2, ms2, Fs⟩ := M.stp
  refine F.okX sc_parting_row (fun vs H Q E h => ?_) (fun cdv A outer s H vs Q E hr h => ?_)
  · obtain ⟨v1, v2, G, s1, s2, r1, r2, rfl, _⟩ := h
    rfl
  · obtain ⟨v1, v2, G, s1, s2, r1, r2, rfl, e0, W, hl, hu⟩ := h
    refine ⟨_, (pss_cons (ps_expr (pe_cal (E := E) CN hr (passes_call (takes_of rfl rfl rfl rfl) (fun _ _ _ _ h => h)) (pa_cons (pe_lst (pa_cons (pv 0) (pa_cons (pv 1) pa_nil))) pa_nil)))
    (pss_cons (ps_par3 (i := 2) (j := 3) (l := 4) (by rfl) sc_parting_row.nd rfl rfl rfl (by decide) (by decide) (by decide) rfl rfl rfl (pa_cons (pe_lst (pa_cons (pe_tup (pa_cons pe_int (pa_cons pe_int (pa_cons (pe_lst pa_nil) pa_nil)))) pa_nil)) (pa_cons (pe_lst (pa_cons (pe_tup (pa_cons pe_int (pa_cons pe_int pa_nil))) pa_nil)) (pa_cons pe_int pa_nil))) (by rfl))
    (pss_cons (ps_while (passes_of rfl) (pt_cmpR op_lt (pv 4) (pe_callB call_len_seq (by rfl) T.b_len (by decide +kernel) (pa_cons (pv 2) pa_nil)) (nomark _))
      (pss_cons (ps_asg (pe_ix ix_list (pv 2) (pv 4) (fun _ _ => rfl)) (pg_tup rfl (pgs_cons (pg_name (i := 5) sc_parting_row.nd rfl (.inl rfl)) (pgs_cons (pg_name (i := 6) sc_parting_row.nd rfl (.inl rfl)) (pgs_cons (pg_name (i := 7) sc_parting_row.nd rfl (.inl rfl)) pgs_nil)))))
      (pss_cons (ps_aug (i := 4) sc_parting_row.nd rfl (.inl rfl) pe_int ip_add)
      (pss_one (ps_for (passes_of rfl) rfl (pi_list (pe_methSl0 (pv 0) M.m.cls mi Fi (hr.mono (by decide)) pass0)) (pg_name (i := 8) sc_parting_row.nd rfl (.inl rfl))
        (pss_cons (ps_par (i := 9) (j := 10) (by rfl) sc_parting_row.nd rfl rfl (by decide) rfl rfl (pa_cons (pe_methSl (pv 0) M.m.cls ms2 Fs (hr.mono (by decide)) pass0 (pa_cons (pv 5) (pa_cons (pv 8) pa_nil))) (pa_cons (pe_methSl (pv 1) M.m.cls ms2 Fs (hr.mono (by decide)) pass0 (pa_cons (pv 6) (pa_cons (pv 8) pa_nil))) pa_nil)) (by rfl))
        (pss_cons (ps_if (pt_cmpR op_ne (pe_ix ix_tup (pv 9) pe_int (fun _ _ => rfl)) (pe_ix ix_tup (pv 10) pe_int (fun _ _ => rfl)) (nomark _))
          (pss_one (ps_ret (pe_lst (StX.pa_star (pv 7) (pa_cons (pv 8) pa_nil)))))
          pss_nil)
        (pss_one (ps_if (pt_cmpR (op_notInD (Room.u65 hr)) (pe_tup (pa_cons (pe_ix ix_tup (pv 9) pe_int (fun _ _ => rfl)) (pa_cons (pe_ix ix_tup (pv 10) pe_int (fun _ _ => rfl)) pa_nil))) (pv 3) rfl)
          (pss_cons (ps_expr (pe_bm PySem.F.plainAttrs_list PySem.F.slot_list_append PySem.F.type_list_append mt_append (pv 3) (pa_cons (pe_tup (pa_cons (pe_ix ix_tup (pv 9) pe_int (fun _ _ => rfl)) (pa_cons (pe_ix ix_tup (pv 10) pe_int (fun _ _ => rfl)) pa_nil))) pa_nil)))
          (pss_one (ps_expr (pe_bm PySem.F.plainAttrs_list PySem.F.slot_list_append PySem.F.type_list_append mt_append (pv 2) (pa_cons (pe_tup (pa_cons (pe_ix ix_tup (pv 9) pe_int (fun _ _ => rfl)) (pa_cons (pe_ix ix_tup (pv 10) pe_int (fun _ _ => rfl)) (pa_cons (pe_lst (StX.pa_star (pv 7) (pa_cons (pv 8) pa_nil))) pa_nil)))) pa_nil)))))
          pss_nil)))))))))
    (pss_one (ps_ret pe_non))))), ?_⟩
    refine ⟨_, rfl, _, rfl, (by show 2 ≤ sizeLine; decide), fun l nl => ?_⟩
    refine ⟨l, v1, v2, G, s1, s2, r1, r2, rfl, SqL.of upd_same, e0.trans (same_new nl), W.a, W.b, W.i1, W.i2, fun es H1 e1' => ?_, fun ne H1 e1' => hu ne H1 ((same_new nl).trans e1')⟩
    have e1 := (same_new (o := .lst [v1, v2]) nl).trans e1'
    clear e1' nl
    subst es
    obtain ⟨h1, h2⟩ := hl rfl
    obtain ⟨a1, dx1, _, _, rfl, hs1, _⟩ := W.a
    obtain ⟨a2, dx2, _, _, rfl, hs2, _⟩ := W.b
    have g1 : Gr W0 G H G H1 := Gr.pure e0 e1
    refine ⟨(by show 0 ≤ sizeLine; decide), fun lw nlw => ?_⟩
    have nlw0 := g1.has.free nlw
    have g2' := g1.add (o := .lst []) nlw0 nlw
    have kl : upd G lw (.lst []) lw = some (.lst []) := upd_same
    generalize upd G lw (.lst []) = G2 at g2' kl
    generalize upd H1 lw (.lst []) = H2 at g2'
    refine ⟨(by show 3 ≤ sizeLine; decide), fun t nt => ?_⟩
    have nt0 := g2'.has.free nt
    have g3' := g2'.add (o := .tup [.int 0, .int 0, .ref lw]) nt0 nt
    have kl3 : upd G2 t (.tup [.int 0, .int 0, .ref lw]) lw = some (.lst []) := same_new (none_of g2'.fz nt) _ _ kl
    have kt3 : upd G2 t (.tup [.int 0, .int 0, .ref lw]) t = some (.tup [.int 0, .int 0, .ref lw]) := upd_same
    generalize upd G2 t (.tup [.int 0, .int 0, .ref lw]) = G3 at g3' kl3 kt3
    generalize upd H2 t (.tup [.int 0, .int 0, .ref lw]) = H3 at g3'
    clear kl
    refine ⟨(by show 1 ≤ sizeLine; decide), fun pw npw => ?_⟩
    have npw0 := g3'.has.free npw
    have gpw3 := none_of g3'.fz npw
    have g4 := g3'.chg (o := .lst [.ref t]) gpw3 (.inr npw0)
    have kw4 : upd H3 pw (.lst [.ref t]) pw = some (.lst [.ref t]) := upd_same
    generalize upd H3 pw (.lst [.ref t]) = H4 at g4 kw4
    refine ⟨(by show 2 ≤ sizeLine; decide), fun u nu => ?_⟩
    have nu0 := g4.has.free nu
    have gu := none_of g4.fz nu
    have pwu : pw ≠ u := fun z => by rw [← z, kw4] at nu; cases nu
    have g5 := g4.add (o := .tup [.int 0, .int 0]) nu0 nu
    have kl5 := same_new (o := .tup [.int 0, .int 0]) gu _ _ kl3
    have kt5 := same_new (o := .tup [.int 0, .int 0]) gu _ _ kt3
    have ku5 : upd G3 u (.tup [.int 0, .int 0]) u = some (.tup [.int 0, .int 0]) := upd_same
    have gpw5 : upd G3 u (.tup [.int 0, .int 0]) pw = none := by rw [upd_ne pwu]; exact gpw3
    have kw5 : upd H4 u (.tup [.int 0, .int 0]) pw = some (.lst [.ref t]) := by rw [upd_ne pwu]; exact kw4
    generalize upd G3 u (.tup [.int 0, .int 0]) = G5 at g5 kl5 kt5 ku5 gpw5
    generalize upd H4 u (.tup [.int 0, .int 0]) = H5 at g5 kw5
    clear kl3 kt3
    refine ⟨(by show 1 ≤ sizeLine; decide), fun pm npm => ⟨_, _, _, rfl, ?_⟩⟩
    have npm0 := g5.has.free npm
    have gpm5 := none_of g5.fz npm
    have pwm : pw ≠ pm := fun z => by rw [← z, kw5] at npm; cases npm
    have g6 := g5.chg (o := .lst [.ref u]) gpm5 (.inr npm0)
    have km6 : upd H5 pm (.lst [.ref u]) pm = some (.lst [.ref u]) := upd_same
    have kw6 : upd H5 pm (.lst [.ref u]) pw = some (.lst [.ref t]) := by rw [upd_ne pwm]; exact kw5
    generalize upd H5 pm (.lst [.ref u]) = H6 at g6 km6 kw6
    have lt1 := W.o1.few
    have lt2 := W.o2.few
    have bnd : r1.length * r2.length ≤ 63 * 63 := Nat.mul_le_mul (by omega) (by omega)
    have sl : 10000 ≤ sizeLine := by decide
    have few : ∀ {ms : List Pr} {n : Nat} {ks : List Str}, Bfs s1 (nx r1 r2) (Reach s1 r1 r2) (agree r1 r2) ms n ks → ms.length ≤ r1.length * r2.length := fun b => few_pairs b.nd fun q hq => (b.rch q hq).inR W.o1 W.o2
    refine ⟨fun m σ' H' => ∃ (n : Nat) (ms : List Pr) (vw vm : List V) (G' : Hp) (c5 c6 c7 c8 c9 c10 : Option V), m + n = r1.length * r2.length ∧ n ≤ ms.length ∧ σ' = [some (.ref a1), some (.ref a2), some (.ref pw), some (.ref pm), some (.int n), c5, c6, c7, c8, c9, c10] ∧ Gr W0 G H G' H' ∧ G' pw = none ∧ G' pm = none ∧ H' pw = some (.lst vw) ∧ H' pm = some (.lst vm) ∧ WaitAt G' vw ms ∧ TupsAt G' vm ms ∧ Bfs s1 (nx r1 r2) (Reach s1 r1 r2) (agree r1 r2) ms n [], ?_, ?_⟩
    · refine ⟨_, 0, [(0, 0)], [.ref t], [.ref u], G5, none, none, none, none, none, none, rfl, by simp, rfl, g6, gpw5, gpm5, kw6, km6, ?_, ?_, Bfs.zero .start⟩
      · exact (show WaitAt G5 [] [] from ⟨rfl, fun i v p h => by simp at h⟩).snoc (p := (0, 0)) kt5 kl5 (Nat.le_refl _)
      · exact TupsAt.nil.snoc (p := (0, 0)) ku5
    · rintro m σ' H' ⟨n, ms, vw, vm, G', c5, c6, c7, c8, c9, c10, hm, hn, rfl, g, gw, gm, hw, hmm, tw, tv, b⟩
      refine ⟨_, rfl, _, rfl, pw, vw, rfl, .inl (SqL.of hw), _, _, rfl, rfl, _, rfl, ite2 (fun c => ?_) fun c => ?_⟩
      · have c' : n < ms.length := by
          have := of_decide_eq_true c
          rw [tw.1] at this
          omega
        have fm := few b
        refine ⟨fun σ' H' => ∃ (ms : List Pr) (vw vm : List V) (G' : Hp) (c5 c6 c7 c8 c9 c10 : Option V), n + 1 ≤ ms.length ∧ σ' = [some (.ref a1), some (.ref a2), some (.ref pw), some (.ref pm), some (.int (n + 1 : Nat)), c5, c6, c7, c8, c9, c10] ∧ Gr W0 G H G' H' ∧ G' pw = none ∧ G' pm = none ∧ H' pw = some (.lst vw) ∧ H' pm = some (.lst vm) ∧ WaitAt G' vw ms ∧ TupsAt G' vm ms ∧ Bfs s1 (nx r1 r2) (Reach s1 r1 r2) (agree r1 r2) ms (n + 1) [], ?_, ?_⟩
        · rintro σ' H' ⟨ms, vw, vm, G', c5, c6, c7, c8, c9, c10, r⟩
          exact ⟨m - 1, by omega, n + 1, ms, vw, vm, G', c5, c6, c7, c8, c9, c10, by omega, r⟩
        obtain ⟨q, hq⟩ : ∃ q, ms[n]? = some q := ⟨ms[n], List.getElem?_eq_getElem c'⟩
        have rq := b.rch q (List.mem_of_getElem? hq)
        have inq := rq.inR W.o1 W.o2
        have nw : n < vw.length := by rw [tw.1]; exact c'
        obtain ⟨tq, lq, ws, hv, ht, hlq, hws⟩ := tw.2 n _ q (List.getElem?_eq_getElem nw) hq
        refine ⟨_, rfl, _, rfl, pw, vw, _, .ref tq, rfl, rfl, SqL.of hw, at_of rfl (by rw [List.getElem?_eq_getElem nw, hv]), ?_⟩
        refine ⟨tq, _, rfl, SqT.of (g.fz _ _ ht), rfl, _, _, rfl, _, _, rfl, _, _, rfl, rfl, ?_⟩
        refine ⟨_, rfl, _, _, rfl, rfl, ?_⟩
        refine ⟨_, rfl, a1, dx1, _, rfl, slt_up (e0.trans g.has) hs1, _, G, s1, r1, rfl, e0.trans g.has, W.a, fun pl npl => ?_⟩
        refine ⟨pl, rfl, ⟨_, SqL.of upd_same⟩, ?_⟩
        have wpl : pw ≠ pl := fun z => by rw [← z, hw] at npl; cases npl
        have mpl : pm ≠ pl := fun z => by rw [← z, hmm] at npl; cases npl
        refine for_list (xs := s1.map V.str) (fun i σ' H' => ∃ (ms : List Pr) (vw vm : List V) (G' : Hp) (c8 c9 c10 : Option V), n < ms.length ∧ ms[n]? = some q ∧ σ' = [some (.ref a1), some (.ref a2), some (.ref pw), some (.ref pm), some (.int (n + 1 : Nat)), some (.int q.1), some (.int q.2), some (.ref lq), c8, c9, c10] ∧ Gr W0 G H G' H' ∧ G' pw = none ∧ G' pm = none ∧ H' pw = some (.lst vw) ∧ H' pm = some (.lst vm) ∧ WaitAt G' vw ms ∧ TupsAt G' vm ms ∧ Bfs s1 (nx r1 r2) (Reach s1 r1 r2) (agree r1 r2) ms n (s1.take i) ∧ H' pl = some (.lst (s1.map V.str)) ∧ G' lq = some (.lst ws))
          ⟨ms, vw, vm, G', c8, c9, c10, c', hq, rfl, g.more (same_new npl), gw, gm, by rw [upd_ne wpl]; exact hw, by rw [upd_ne mpl]; exact hmm, tw, tv, b, upd_same, hlq⟩ ?_ ?_ ?_
        · rintro i σ' H' _ ⟨ms, vw, vm, G', c8, c9, c10, _, _, _, _, _, _, _, _, _, _, _, h, _⟩
          exact SqL.of h
        · clear tw tv hw hmm hv ht hlq g b gw gm
          rintro i x σ' H' hx ⟨ms, vw, vm, G', c8, c9, c10, c', hq, rfl, g, gw, gm, hw, hmm, tw, tv, b, hpl, hlq⟩
          obtain ⟨k, hk, rfl⟩ := at_map hx
          have kin := List.mem_of_getElem? hk
          have tk : s1.take (i + 1) = s1.take i ++ [k] := by rw [List.take_succ, hk]; rfl
          have eG := e0.trans g.has
          obtain ⟨w1, e11, e12, st1⟩ := step_of (K := K) (G := G) W.o1 inq.1.1 inq.1.2 kin
          obtain ⟨w2, e21, e22, st2⟩ := step_of (K := K) (G := G) W.o2 inq.2.1 inq.2.2 kin
          refine ⟨_, rfl, a1, dx1, _, rfl, slt_up eG hs1, _, rfl, _, rfl, _, G, s1, r1, q.1, k, w1, rfl, eG, W.a, inq.1.1, e11, e12, fun t1 ht1 => ?_⟩
          refine ⟨_, rfl, a2, dx2, _, rfl, slt_up eG hs2, _, rfl, _, rfl, _, G, s1, r2, q.2, k, w2, rfl, eG, W.b, inq.2.1, e21, e22, fun t2 ht2 => ?_⟩
          have u1 := sqT_up eG (st1 t1 ht1)
          have u2 := sqT_up eG (st2 t2 ht2)
          refine ⟨_, _, rfl, _, rfl, t1, _, _, .str _, rfl, rfl, u1, rfl, _, rfl, t2, _, _, .str _, rfl, rfl, u2, rfl, rfl, _, rfl, ite2 (fun nag => ?_) fun nag => ?_⟩
          · have nag' : ¬ agree r1 r2 q k := fun ag => by
              have : V.str (stp r1 q.1 k).2 = V.str (stp r2 q.2 k).2 := congrArg V.str ag
              rw [this] at nag
              simp at nag

            refine ⟨_, rfl, lq, ws, rfl, .inr (SqL.of (g.fz _ _ hlq)), _, rfl, by simp; omega, fun pr npr => ?_⟩
            exact h2 (fun all => nag' (all q rq k kin)) _ pr (g.has.trans (same_new npr))
          · have ag : agree r1 r2 q k := by
              have z : V.str (stp r1 q.1 k).2 = V.str (stp r2 q.2 k).2 := by simpa using nag
              injection z
            have rn := rq.step kin
            have fb : ∀ {ms' : List Pr} {ks : List Str}, Bfs s1 (nx r1 r2) (Reach s1 r1 r2) (agree r1 r2) ms' n ks → ms'.length ≤ 63 * 63 := fun b => Nat.le_trans (few b) bnd
            have fm2 := fb b
            have twl := tw.1
            have tvl := tv.1
            refine ⟨_, rfl, t1, _, _, .int _, rfl, rfl, u1, rfl, _, rfl, t2, _, _, .int _, rfl, rfl, u2, rfl, (by show 2 ≤ sizeLine; decide), fun t3 nt3 => ?_⟩
            have p3 : pm ≠ t3 := fun z => by rw [← z, hmm] at nt3; cases nt3
            have w3 : pw ≠ t3 := fun z => by rw [← z, hw] at nt3; cases nt3
            have l3 : pl ≠ t3 := fun z => by rw [← z, hpl] at nt3; cases nt3
            have g3 := g.more (same_new (o := .tup [.int (nx r1 r2 q k).1, .int (nx r1 r2 q k).2]) nt3)
            have u13 := sqT_up (same_new (o := .tup [.int (nx r1 r2 q k).1, .int (nx r1 r2 q k).2]) nt3) u1
            have u23 := sqT_up (same_new (o := .tup [.int (nx r1 r2 q k).1, .int (nx r1 r2 q k).2]) nt3) u2
            have k3 : upd H' t3 (.tup [.int (nx r1 r2 q k).1, .int (nx r1 r2 q k).2]) t3 = some (.tup [.int (nx r1 r2 q k).1, .int (nx r1 r2 q k).2]) := upd_same
            have hw3 : upd H' t3 (.tup [.int (nx r1 r2 q k).1, .int (nx r1 r2 q k).2]) pw = some (.lst vw) := by rw [upd_ne w3]; exact hw
            have hm3 : upd H' t3 (.tup [.int (nx r1 r2 q k).1, .int (nx r1 r2 q k).2]) pm = some (.lst vm) := by rw [upd_ne p3]; exact hmm
            have hl3 : upd H' t3 (.tup [.int (nx r1 r2 q k).1, .int (nx r1 r2 q k).2]) pl = some (.lst (s1.map V.str)) := by rw [upd_ne l3]; exact hpl
            show tVar _ _ (upd H' t3 (.tup [.int (nx r1 r2 q k).1, .int (nx r1 r2 q k).2])) _
            generalize upd H' t3 (.tup [.int (nx r1 r2 q k).1, .int (nx r1 r2 q k).2]) = H3 at g3 u13 u23 k3 hw3 hm3 hl3
            refine ⟨_, rfl, pairD (nx r1 r2 q k), ms.map pairD, (DD.pair (SqT.of k3)).dp rfl, .lst (SqL.of hm3) ((tv.up g3.fz).dds.dp (plain_pairs ms)), shaped_pair _, shaped_pairs ms, _, rfl, ?_⟩
            rw [any_pair]
            refine ite2 (fun nm => ?_) fun nm => ?_
            · have nm' : nx r1 r2 q k ∉ ms := by simpa using nm
              have b2 := b.new hq nm' rn ag
              refine ⟨_, rfl, .inl ⟨rfl, _, SqL.of hm3⟩, _, rfl, t1, _, _, .int _, rfl, rfl, u13, rfl, _, rfl, t2, _, _, .int _, rfl, rfl, u23, rfl, (by show 2 ≤ sizeLine; decide), fun t4 nt4 => ?_⟩
              have p4 : pm ≠ t4 := fun z => by rw [← z, hm3] at nt4; cases nt4
              have w4 : pw ≠ t4 := fun z => by rw [← z, hw3] at nt4; cases nt4
              have l4 : pl ≠ t4 := fun z => by rw [← z, hl3] at nt4; cases nt4
              have nt40 := g3.has.free nt4
              have gt4 := none_of g3.fz nt4
              have sG := same_new (o := .tup [.int (stp r1 q.1 k).1, .int (stp r2 q.2 k).1]) gt4
              have g4 := g3.add (o := .tup [.int (stp r1 q.1 k).1, .int (stp r2 q.2 k).1]) nt40 nt4
              have k4 : upd G' t4 (.tup [.int (stp r1 q.1 k).1, .int (stp r2 q.2 k).1]) t4 = some (.tup [.int (stp r1 q.1 k).1, .int (stp r2 q.2 k).1]) := upd_same
              have gm4 : upd G' t4 (.tup [.int (stp r1 q.1 k).1, .int (stp r2 q.2 k).1]) pm = none := by rw [upd_ne p4]; exact gm
              have gw4 : upd G' t4 (.tup [.int (stp r1 q.1 k).1, .int (stp r2 q.2 k).1]) pw = none := by rw [upd_ne w4]; exact gw
              have tw4 := tw.up sG
              have tv4 := tv.up sG
              have lq4 := sG _ _ hlq
              refine ⟨pm, vm, _, rfl, rfl, by rw [upd_ne p4]; exact hm3, by rw [tvl]; omega, ?_⟩
              have pmw : pw ≠ pm := pwm
              have pml : pl ≠ pm := fun z => mpl z.symm
              have g5 := g4.chg (o := .lst (vm ++ [.ref t4])) gm4 (.inr npm0)
              have hm5 : upd (upd H3 t4 (.tup [.int (stp r1 q.1 k).1, .int (stp r2 q.2 k).1])) pm (.lst (vm ++ [.ref t4])) pm = some (.lst (vm ++ [.ref t4])) := upd_same
              have hw5 : upd (upd H3 t4 (.tup [.int (stp r1 q.1 k).1, .int (stp r2 q.2 k).1])) pm (.lst (vm ++ [.ref t4])) pw = some (.lst vw) := by rw [upd_ne pmw, upd_ne w4]; exact hw3
              have hl5 : upd (upd H3 t4 (.tup [.int (stp r1 q.1 k).1, .int (stp r2 q.2 k).1])) pm (.lst (vm ++ [.ref t4])) pl = some (.lst (s1.map V.str)) := by rw [upd_ne pml, upd_ne l4]; exact hl3
              have u15 := sqT_up (e0.trans g5.has) (st1 t1 ht1)
              have u25 := sqT_up (e0.trans g5.has) (st2 t2 ht2)
              generalize upd (upd H3 t4 (.tup [.int (stp r1 q.1 k).1, .int (stp r2 q.2 k).1])) pm (.lst (vm ++ [.ref t4])) = H5 at g5 hm5 hw5 hl5 u15 u25
              generalize upd G' t4 (.tup [.int (stp r1 q.1 k).1, .int (stp r2 q.2 k).1]) = G4 at g4 k4 gm4 gw4 tw4 tv4 lq4 g5
              refine ⟨_, rfl, .inl ⟨rfl, _, SqL.of hw5⟩, _, rfl, t1, _, _, .int _, rfl, rfl, u15, rfl, _, rfl, t2, _, _, .int _, rfl, rfl, u25, rfl, _, rfl, lq, ws, rfl, .inr (SqL.of (g5.fz _ _ lq4)), _, rfl, by simp; omega, fun l6 nl6 => ?_⟩
              have p6 : pm ≠ l6 := fun z => by rw [← z, hm5] at nl6; cases nl6
              have w6 : pw ≠ l6 := fun z => by rw [← z, hw5] at nl6; cases nl6
              have l6' : pl ≠ l6 := fun z => by rw [← z, hl5] at nl6; cases nl6
              have nl60 := g5.has.free nl6
              have gl6 := none_of g5.fz nl6
              have g6 := g5.add (o := .lst (ws ++ [.str k])) nl60 nl6
              have s6 := same_new (o := .lst (ws ++ [.str k])) gl6
              refine ⟨(by show 3 ≤ sizeLine; decide), fun t7 nt7 => ?_⟩
              have nt70 := g6.has.free nt7
              have gt7 := none_of g6.fz nt7
              have t7l : l6 ≠ t7 := fun z => by rw [← z, upd_same] at nt7; cases nt7
              have t7p : pm ≠ t7 := fun z => by rw [← z, upd_ne p6, hm5] at nt7; cases nt7
              have t7w : pw ≠ t7 := fun z => by rw [← z, upd_ne w6, hw5] at nt7; cases nt7
              have t7pl : pl ≠ t7 := fun z => by rw [← z, upd_ne l6', hl5] at nt7; cases nt7
              have g7 := g6.add (o := .tup [.int (nx r1 r2 q k).1, .int (nx r1 r2 q k).2, .ref l6]) nt70 nt7
              have s7 := same_new (o := .tup [.int (nx r1 r2 q k).1, .int (nx r1 r2 q k).2, .ref l6]) gt7
              refine ⟨pw, vw, _, rfl, rfl, by rw [upd_ne t7w, upd_ne w6]; exact hw5, by rw [twl]; omega, ?_⟩
              refine ⟨ms ++ [nx r1 r2 q k], vw ++ [.ref t7], vm ++ [.ref t4], _, _, _, _, by simp; omega, ?_, rfl, g7.chg (by rw [upd_ne t7w, upd_ne w6]; exact gw4) (.inr npw0), by rw [upd_ne t7w, upd_ne w6]; exact gw4, by rw [upd_ne t7p, upd_ne p6]; exact gm4, upd_same, ?_, ?_, ?_, by rw [tk]; exact b2, ?_, ?_⟩
              · rw [List.getElem?_append_left c']; exact hq
              · rw [upd_ne pwm.symm, upd_ne t7p, upd_ne p6]; exact hm5
              · exact ((tw4.up s6).up s7).snoc upd_same (s7 _ _ upd_same) (by simp; omega)
              · exact ((tv4.snoc k4).up s6).up s7
              · rw [upd_ne wpl.symm, upd_ne t7pl, upd_ne l6']; exact hl5
              · exact s7 _ _ (s6 _ _ lq4)
            · have nm' : nx r1 r2 q k ∈ ms := by simpa using nm
              exact ⟨ms, vw, vm, _, _, _, _, c', hq, rfl, g3, gw, gm, hw3, hm3, tw, tv, by rw [tk]; exact b.see hq nm' ag, hl3, hlq⟩
        · rintro σ' H' ⟨ms, vw, vm, G', c8, c9, c10, c', hq, rfl, g, gw, gm, hw, hmm, tw, tv, b, hpl, hlq⟩
          rw [List.length_map, List.take_length] at b
          exact ⟨ms, vw, vm, G', _, _, _, c8, c9, c10, c', rfl, g, gw, gm, hw, hmm, tw, tv, b.next hq⟩
      · have c' : ms.length ≤ n := by
          have z := c
          simp at z
          rw [tw.1] at z
          exact z
        have cl := b.closed c'
        exact h1 (fun q hq k hk => (cl q (reach_mem b.st (fun q hq k hk => (cl q hq k hk).1) hq) k hk).2) _ g.has
abbrev s_say_same : Stmt := topS 18
abbrev N_say_same : List Str := ["one", "other"]
theorem sc_say_same : FnScope N_say_same ["one", "other"] (defScope s_say_same) := ⟨rfl, rfl, rfl, by decide +kernel, rfl, by decide +kernel, by decide +kernel⟩
theorem ok_say_same {f : Addr} {fd : FuncData} (F : Fun K "say_same" "say_same" s_say_same f fd) (CP : Cal P w K mg base (L2.CX P w) 3 "parting_row" ["one", "other"] (spParting K C U)) : FnOk P w K mg base (L2.CX P w) 4 f fd ["one", "other"] (spSaySame K C U) := by
  refine F.okX sc_say_same (fun vs H Q E h => ?_) (fun cdv A outer s H vs Q E hr h => ?_)
  · obtain ⟨v1, v2, G, s1, s2, r1, r2, rfl, _⟩ := h
    rfl
  · obtain ⟨v1, v2, G, s1, s2, r1, r2, rfl, e0, W, hl, hu⟩ := h
    refine ⟨_, (pss_one (ps_ret (pe_cmpR op_isN (pe_cal (E := E) CP hr (passes_call (takes_of rfl rfl rfl rfl) (fun _ _ _ _ h => h)) (pa_cons (pv 0) (pa_cons (pv 1) pa_nil))) pe_non (nomark _)))), ?_⟩
    exact ⟨_, rfl, _, rfl, v1, v2, G, s1, s2, r1, r2, rfl, e0, W, fun es => ⟨fun all H' e => ⟨rfl, hl es H' _ e (by simpa using all)⟩, fun nal H' p e => ⟨rfl, hl es H' _ e (by simpa using nal)⟩⟩, hu⟩
end
end Kp

set_option Elab.async false
set_option linter.all false
set_option maxRecDepth 100000
namespace Kp
open PySem PySem.Spec PyProof.Rows L2
/-- a walk with any body: of a comprehension with two for, outer and inner -/
theorem out_it {J : It} {n : Nat} {G : Hp → Prop} {Y : Nat → Hp → V → Hp → Prop} (w : Walk J n G Y) {g : TG} {tt : TT} {vs : List Nat} {σ : L2.St} {H0 : Hp} {Qd : Hp → Prop} {B : L2.St → Hp → (Hp → Prop) → Prop}
    (Pv : Nat → Hp → Prop) (h0 : Pv 0 H0) (hG : ∀ i H, i ≤ n → Pv i H → G H)
    (hs : ∀ i x H H', i < n → Pv i H → Y i H x H' → g x (wipe σ vs) H' fun σ2 H2 => wipe σ2 vs = wipe σ vs ∧ tt σ2 H2 fun b H3 => if b = true then B σ2 H3 (Pv (i + 1)) else Pv (i + 1) H3) (hd : ∀ H, Pv n H → Qd H) :
    ∃ W : Nat → Nat → Hp → Prop, (∃ m, W 0 m H0) ∧ ∀ i m H, W i m H →
      (J.stop i H ∧ Qd H) ∨ (J.go i H ∧ ∃ Nx : Hp → Prop, (∀ H', Nx H' → ∃ m', m' < m ∧ W (i + 1) m' H') ∧ ∀ x H', J.yld i H x H' → g x (wipe σ vs) H' fun σ2 H2 => wipe σ2 vs = wipe σ vs ∧ tt σ2 H2 fun b H3 =>
        if b = true then B σ2 H3 Nx else Nx H3) := by
  refine ⟨fun i m H => i ≤ n ∧ m + i = n ∧ Pv i H, ⟨n, Nat.zero_le _, rfl, h0⟩, ?_⟩
  rintro i m H ⟨hi, hm, p⟩
  have q := hG i H hi p
  rcases Nat.lt_or_ge i n with lt | ge
  · exact .inr ⟨w.goes i H lt q, Pv (i + 1), fun H' p' => ⟨m - 1, by omega, by omega, by omega, p'⟩, fun x H' y => hs i x H H' lt p (w.yields i H x H' lt q y)⟩
  · obtain rfl : i = n := by omega
    exact .inl ⟨w.stops H q, hd H p⟩
/-! ### lists of pairs told of by data -/
def toPr : PyData → Pr
  | .tuple [.int a, .int b] => (a, b)
  | _ => (0, 0)
/-- a pair of states of machines of n and m states -/
def isPairB (n m : Nat) (d : PyData) : Bool := match d with
  | .tuple [.int a, .int b] => (decide (0 ≤ a) && decide (a < n)) && (decide (0 ≤ b) && decide (b < m))
  | _ => false
theorem isPairB_iff {n m : Nat} {d : PyData} : isPairB n m d = true ↔ d = pairD (toPr d) ∧ inR n m (toPr d) := by
  constructor
  · intro h
    unfold isPairB at h
    split at h
    · simp only [Bool.and_eq_true, decide_eq_true_eq] at h
      exact ⟨rfl, h⟩
    · cases h
  · rintro ⟨e, h⟩
    rw [e]
    unfold pairD isPairB
    simp only [Bool.and_eq_true, decide_eq_true_eq]
    exact h
theorem all_pairs {n m : Nat} {ds : List PyData} (h : ds.all (isPairB n m) = true) : ds = (ds.map toPr).map pairD ∧ ∀ p ∈ ds.map toPr, inR n m p := by
  rw [List.all_eq_true] at h
  constructor
  · rw [List.map_map]
    conv => lhs; rw [← List.map_id ds]
    exact List.map_congr_left fun d hd => (isPairB_iff.mp (h d hd)).1
  · intro p hp
    obtain ⟨d, hd, rfl⟩ := List.mem_map.mp hp
    exact (isPairB_iff.mp (h d hd)).2
theorem all_pairs_of {n m : Nat} {ms : List Pr} (h : ∀ p ∈ ms, inR n m p) : (ms.map pairD).all (isPairB n m) = true := by
  rw [List.all_eq_true]
  intro d hd
  obtain ⟨p, hp, rfl⟩ := List.mem_map.mp hd
  exact isPairB_iff.mpr ⟨rfl, h p hp⟩
theorem pairD_inj {p q : Pr} (h : pairD p = pairD q) : p = q := by
  unfold pairD at h
  injection h with h
  injection h with h1 h2
  injection h2 with h2 _
  injection h1 with h1
  injection h2 with h2
  exact Prod.ext h1 h2
theorem map_pairD_inj {l m : List Pr} (h : l.map pairD = m.map pairD) : l = m := by
  induction l generalizing m with
  | nil => cases m with
    | nil => rfl
    | cons _ _ => cases h
  | cons p l ih => cases m with
    | nil => cases h
    | cons q m =>
      rw [List.map_cons, List.map_cons] at h
      injection h with h1 h2
      rw [pairD_inj h1, ih h2]
/-- a list of pairs that closes -/
def Closed (ss : List Str) (r1 r2 : List Row) (d : PyData) : Prop := ∃ ms : List Pr, d = .list (ms.map pairD) ∧ (∀ p ∈ ms, inR r1.length r2.length p) ∧ (0, 0) ∈ ms ∧ ms.Nodup ∧ ∀ p ∈ ms, ∀ k ∈ ss, agree r1 r2 p k ∧ nx r1 r2 p k ∈ ms
theorem closed_iff {ss : List Str} {r1 r2 : List Row} {ms : List Pr} (h : ∀ p ∈ ms, inR r1.length r2.length p) : Closed ss r1 r2 (.list (ms.map pairD)) ↔ (0, 0) ∈ ms ∧ ms.Nodup ∧ ∀ p ∈ ms, ∀ k ∈ ss, agree r1 r2 p k ∧ nx r1 r2 p k ∈ ms := by
  constructor
  · rintro ⟨ms', e, _, r⟩
    injection e with e
    rw [map_pairD_inj e]
    exact r
  · intro r
    exact ⟨ms, rfl, h, r⟩
theorem closed_not {ss : List Str} {r1 r2 : List Row} {ds : List PyData} (h : ds.all (isPairB r1.length r2.length) = false) : ¬ Closed ss r1 r2 (.list ds) := by
  rintro ⟨ms, e, hr, _⟩
  injection e with e
  rw [e, all_pairs_of hr] at h
  cases h
theorem closed_not' {ss : List Str} {r1 r2 : List Row} {d : PyData} (h : isList d = false) : ¬ Closed ss r1 r2 d := by
  rintro ⟨ms, rfl, _⟩
  cases h
/-- the tuple as a list of two numbers -/
def prL (p : Pr) : List Int := [p.1, p.2]
theorem nodup_prL {ms : List Pr} : (ms.map prL).Nodup ↔ ms.Nodup := by
  constructor
  · intro h
    exact List.Pairwise.imp (fun n e => n (by rw [e])) (List.pairwise_map.mp h)
  · intro h
    refine List.Pairwise.map _ (fun p q n e => n ?_) h
    obtain ⟨a, b⟩ := p
    obtain ⟨c, d⟩ := q
    unfold prL at e
    injection e with e1 e2
    injection e2 with e2 _
    exact Prod.ext e1 e2
theorem map_eq_map {α β : Type} (f : α → β) : ∀ (l : List α) (m : List α), l.map f = m.map f → (∀ a b, f a = f b → a = b) → l = m
  | [], [], _, _ => rfl
  | [], _ :: _, h, _ => by cases h
  | _ :: _, [], h, _ => by cases h
  | a :: l, b :: m, h, i => by
    rw [List.map_cons, List.map_cons] at h
    injection h with h1 h2
    rw [i _ _ h1, map_eq_map f l m h2 i]
end Kp

set_option Elab.async false
set_option linter.all false
set_option maxRecDepth 100000
namespace Kp
open PySem PySem.Spec PyProof.Rows L2 SlX
def spIsPair (K : PySem.W.Frag) (C : Addr) : Sp := fun vs H Q _ => ∃ (v1 v2 v : V) (d : PyData) (G : Hp) (s1 s2 : List Str) (r1 r2 : List Row), vs = [v1, v2, v] ∧ Same G H ∧ Ma K C G v1 s1 r1 ∧ Ma K C G v2 s2 r2 ∧ r1.length < 64 ∧ r2.length < 64 ∧ DD K G v d ∧ (∀ ds, d = .tuple ds → ds.length < 100000) ∧ ∀ H', Same H H' → Q (.bl (isPairB r1.length r2.length d)) H'
section
variable {P : Program} {w : World} {K : PySem.W.Frag} {mg : Str → Option Value} {base : Heap} {C U : Addr}
abbrev s_is_pair : Stmt := topS 21
abbrev N_is_pair : List Str := ["one", "other", "thing", "state"]
theorem sc_is_pair : FnScope N_is_pair ["one", "other", "thing"] (defScope s_is_pair) := ⟨rfl, rfl, rfl, by decide +kernel, rfl, by decide +kernel, by decide +kernel⟩
theorem isPair_not {n m : Nat} {d : PyData} (h : isTup d = false) : isPairB n m d = false := by cases d <;> first | rfl | cases h
theorem isPair_len {n m : Nat} {ds : List PyData} (h : ds.length ≠ 2) : isPairB n m (.tuple ds) = false := by
  unfold isPairB
  split
  · rename_i e
    injection e with e
    rw [e] at h
    exact absurd rfl h
  · rfl
theorem isPair_whole {n m : Nat} {a b : PyData} (h : ([a, b].all isWhole) = false) : isPairB n m (.tuple [a, b]) = false := by
  unfold isPairB
  split
  · rename_i e
    injection e with e
    injection e with e1 e2
    injection e2 with e2 _
    rw [e1, e2] at h
    cases h
  · rfl
theorem ok_is_pair {f : Addr} {fd : FuncData} (F : Fun K "is_pair" "is_pair" s_is_pair f fd) (T : Bi mg) (M : Mm P w K mg base C) (CI : CIsInteger P w K mg base) : FnOk P w K mg base CX0 3 f fd ["one", "other", "thing"] (spIsPair K C) := by
  obtain ⟨g, hl1, hl2, Fl⟩ := M.len
  refine F.ok sc_is_pair (fun vs H Q E h => ?_) (fun cdv A outer s H vs Q E hr h => ?_)
  · obtain ⟨v1, v2, v, d, G, s1, s2, r1, r2, rfl, _⟩ := h
    rfl
  · obtain ⟨v1, v2, v, d, G, s1, s2, r1, r2, rfl, e0, m1, m2, lt1, lt2, hd, hz, k⟩ := h
    refine ⟨_, (pss_cons (ps_if (PW.pt (pw_or (pt_not (pt_val (pe_callB call_isi (by rfl) T.b_isinstance (by decide +kernel) (pa_cons (pv 2) (pa_cons (pe_bltn (v := .ty "tuple") (by rfl) T.b_tuple (by decide +kernel) rfl) pa_nil))))) (pw_or (pt_cmpR op_ne (pe_callB call_len_seq (by rfl) T.b_len (by decide +kernel) (pa_cons (pv 2) pa_nil)) pe_int (nomark _)) (pw_or1 (pt_not (pt_val (pe_callB (cr_all rfl) (by rfl) T.b_all (by decide +kernel) (pa_cons (pe_lc (own := [("state", 3)]) (by rfl) sc_is_pair.nd (pi_tup (pv 2)) (blkOk_by (N := N_is_pair) (sc := defScope s_is_pair) (by decide +kernel)) (fun _ _ _ _ _ => (pg_name (i := 3) sc_is_pair.nd rfl (.inl rfl))) (fun _ _ _ _ _ => pts_nil) (fun _ _ _ _ _ => (pe_cal CI (hr.mono (by decide)) pass0 (pa_cons (pv 3) pa_nil)))) pa_nil))))))))
      (pss_one (ps_ret pe_bl))
      pss_nil)
    (pss_one (ps_ret (pe_and (pe_chain op_le op_lt pe_int (pe_ix ix_tup (pv 2) pe_int (fun _ _ => rfl)) (pe_callB (call_lenOwn (C := C) hl1 hl2 Fl (hr.mono (by decide)) pass0) (by rfl) T.b_len (by decide +kernel) (pa_cons (pv 0) pa_nil))) (pe_one (pe_chain op_le op_lt pe_int (pe_ix ix_tup (pv 2) pe_int (fun _ _ => rfl)) (pe_callB (call_lenOwn (C := C) hl1 hl2 Fl (hr.mono (by decide)) pass0) (by rfl) T.b_len (by decide +kernel) (pa_cons (pv 1) pa_nil)))))))), ?_⟩
    have hdH := hd.up e0
    refine ⟨_, rfl, v, .ty "tuple", _, _, _, rfl, .ty "tuple", hdH.tyx, kit_ty (kit_tup d), _, rfl, ite2 (fun c => ?_) fun c => ?_⟩
    · have c' : isTup d = false := by simpa using c
      have := k H (Same.refl H)
      rw [isPair_not c'] at this
      exact iteT this
    · have c' : isTup d = true := by simpa using c
      obtain ⟨ds, rfl⟩ : ∃ ds, d = .tuple ds := by
        cases d with
        | tuple ds => exact ⟨ds, rfl⟩
        | _ => cases c'
      obtain ⟨t, xs, rfl, ht, hxs⟩ := hdH.tuple_inv
      have hln := hxs.length
      refine ⟨_, rfl, t, xs, rfl, .inr ht, rfl, _, rfl, ite2 (fun c => ?_) fun c => ?_⟩
      · have := k H (Same.refl H)
        rw [isPair_len (by intro z; rw [hln, z] at c; simp at c)] at this
        exact iteT this
      · have l2 : ds.length = 2 := by rw [hln] at c; simp at c; omega
        obtain ⟨da, db, rfl⟩ : ∃ a b, ds = [a, b] := by
          match ds, l2 with
          | [a, b], _ => exact ⟨a, b, rfl⟩
        obtain ⟨x, y, rfl, hx, hy⟩ : ∃ x y, xs = [x, y] ∧ DD K H x da ∧ DD K H y db := by
          cases hxs with
          | cons h1 h2 =>
            cases h2 with
            | cons h2 h3 =>
              cases h3
              exact ⟨_, _, rfl, h1, h2⟩
        let bs := [isWhole da, isWhole db]
        have big : 1000 ≤ sizeLine := by decide
        refine ⟨_, rfl, t, rfl, ⟨_, ht⟩, fun D nD => ?_⟩
        refine lc_tup (xs := [x, y]) (fun i H' => Same H H' ∧ H' D = some (.lst ((bs.take i).map V.bl))) ⟨same_new nD, upd_same⟩ (fun i H' _ e => sqT_up e.1 ht) ?_ ?_
        · rintro i z H' hz' ⟨e1, e2⟩
          obtain ⟨dz, hdz, hb⟩ : ∃ dz, DD K H z dz ∧ bs[i]? = some (isWhole dz) := by
            match i, hz' with
            | 0, hz' => cases hz'; exact ⟨da, hx, rfl⟩
            | 1, hz' => cases hz'; exact ⟨db, hy, rfl⟩
          have ilt : i < 2 := (List.getElem?_eq_some_iff.mp hz').1
          refine ⟨rfl, _, rfl, z, dz, rfl, hdz.up e1, _, e2, by simp; omega, same_chg e1 nD, ?_⟩
          rw [upd_same, show bs.take (i + 1) = bs.take i ++ [isWhole dz] by rw [List.take_succ, hb]; rfl, List.map_append]
          rfl
        · rintro H' ⟨e1, e2⟩
          refine ⟨D, bs, rfl, SqL.of e2, _, rfl, ite2 (fun c => ?_) fun c => ?_⟩
          · have := k H' e1
            rw [isPair_whole (by simp [bs] at c; rcases c with h | h <;> simp [h])] at this
            exact this
          · have both : isWhole da = true ∧ isWhole db = true := by simpa [bs] using c
            obtain ⟨i, rfl⟩ : ∃ i, da = .int i := by cases da <;> first | exact ⟨_, rfl⟩ | cases both.1
            obtain ⟨j, rfl⟩ : ∃ i, db = .int i := by cases db <;> first | exact ⟨_, rfl⟩ | cases both.2
            rw [hx.int_inv, hy.int_inv] at ht
            have ht' := sqT_up e1 ht
            have m1' := m1
            have m2' := m2
            obtain ⟨a1, dx1, _, _, rfl, hs1, _⟩ := m1
            obtain ⟨a2, dx2, _, _, rfl, hs2, _⟩ := m2
            have eG := e0.trans e1
            have fin := k H' e1
            have no : ∀ {b : Bool}, isPairB r1.length r2.length (.tuple [.int i, .int j]) = b → Q (.bl b) H' := fun e => e ▸ fin
            have val : isPairB r1.length r2.length (.tuple [.int i, .int j]) = ((decide (0 ≤ i) && decide (i < r1.length)) && (decide (0 ≤ j) && decide (j < r2.length))) := rfl
            refine ⟨_, rfl, t, _, _, .int i, rfl, rfl, ht', rfl, _, _, rfl, rfl, _, rfl, ite2 (fun c1 => ?_) fun c1 => ?_⟩
            · refine ⟨_, rfl, a1, dx1, _, rfl, slt_up eG hs1, _, G, s1, r1, rfl, eG, m1', _, rfl, by omega, by omega, _, _, rfl, rfl, _, rfl, ite2 (fun c2 => ?_) fun c2 => ?_⟩
              · refine ⟨_, rfl, t, _, _, .int j, rfl, rfl, ht', rfl, _, _, rfl, rfl, _, rfl, ite2 (fun c3 => ?_) fun c3 => ?_⟩
                · refine ⟨_, rfl, a2, dx2, _, rfl, slt_up eG hs2, _, G, s2, r2, rfl, eG, m2', _, rfl, by omega, by omega, _, _, rfl, rfl, no ?_⟩
                  rw [val, c1, c2, c3]; rfl
                · refine no ?_
                  rw [val, c1, c2, show decide (0 ≤ j) = false by simpa using c3]; rfl
              · refine no ?_
                rw [val, c1, show decide (i < r1.length) = false by simpa using c2]; rfl
            · refine ⟨_, rfl, iteF (no ?_)⟩
              rw [val, show decide (0 ≤ i) = false by simpa using c1]; rfl
end
end Kp

set_option Elab.async false
set_option linter.all false
set_option maxRecDepth 100000
namespace Kp
open PySem PySem.Spec PyProof.Rows L2 SlX
/-- what isinstance(machine, list) looks at -/
structure Mi (K : PySem.W.Frag) (C : Addr) : Prop where
  si : SIsi K C
  nl : PySem.W.kitOne K (.ref C) (.type "list") = some false
theorem isi_or {X : Cx} (u : Value) : CallR X (.builtin "isinstance") (fun xs H Q => rIsi X.K xs H Q ∨ rIsiSl X.K u xs H Q) := by
  intro pins s σ H xs us Q I r h
  rcases h with h | h
  · exact call_isi pins s σ H xs us Q I r h
  · exact call_isiSl u pins s σ H xs us Q I r h
/-- how great a thing may be -/
def Fine (d : PyData) : Prop := (∀ ds, d = .list ds → ds.length < 100000 ∧ ∀ e ∈ ds, ∀ es, e = .tuple es → es.length < 100000) ∧ ∀ ms : List Pr, d = .list (ms.map pairD) → ms.length < 64
def spArePairs (K : PySem.W.Frag) (C U : Addr) : Sp := fun vs H Q E => ∃ (v1 v2 v : V) (G : Hp) (s1 s2 : List Str) (r1 r2 : List Row), vs = [v1, v2, v] ∧ Same G H ∧ TwoM K C G v1 v2 s1 s2 r1 r2 ∧
  ((∃ d, DD K G v d ∧ Fine d ∧ (s1 = s2 → ∀ H' b, Same H H' → (b = true ↔ Closed s1 r1 r2 d) → Q (.bl b) H')) ∨ ∃ ss rs, Ma K C G v ss rs ∧ (s1 = s2 → ∀ H', Same H H' → Q (.bl false) H')) ∧ (s1 ≠ s2 → ∀ H', Same H H' → E (.ref U) none H')
section
variable {P : Program} {w : World} {K : PySem.W.Frag} {mg : Str → Option Value} {base : Heap} {C U : Addr}
abbrev CIsPair (P : Program) (w : World) (K : PySem.W.Frag) (mg : Str → Option Value) (base : Heap) (C : Addr) : Prop := Cal P w K mg base CX0 3 "is_pair" ["one", "other", "thing"] (spIsPair K C)
abbrev s_are_pairs : Stmt := topS 22
abbrev N_are_pairs : List Str := ["one", "other", "thing", "pair", "name"]
theorem sc_are_pairs : FnScope N_are_pairs ["one", "other", "thing"] (defScope s_are_pairs) := ⟨rfl, rfl, rfl, by decide +kernel, rfl, by decide +kernel, by decide +kernel⟩
theorem any_none (ms : List Pr) : ((ms.map pairD).any fun z => PyData.eqv z .none) = false := by
  induction ms with
  | nil => rfl
  | cons p ms ih => rw [List.map_cons, List.any_cons, ih]; rfl
/-- the tuples of a list of pairs, with their places -/
theorem keys_of {K : PySem.W.Frag} {H : Hp} : ∀ {xs : List V} {ms : List Pr}, DDs K H xs (ms.map pairD) → ∃ ks : List (Addr × List Int), xs = ks.map (fun p => V.ref p.1) ∧ ks.map (·.2) = ms.map prL ∧ ∀ p ∈ ks, SqT K H p.1 (p.2.map V.int)
  | _, [], h => by cases h; exact ⟨[], rfl, rfl, fun p hp => by cases hp⟩
  | _, m :: ms, h => by
    cases h with
    | cons h1 h2 =>
      obtain ⟨ks, rfl, e2, e3⟩ := keys_of h2
      obtain ⟨t, rfl, ht⟩ := pair_inv h1
      refine ⟨(t, prL m) :: ks, rfl, by rw [List.map_cons, e2]; rfl, fun p hp => ?_⟩
      rcases List.mem_cons.mp hp with e | hp
      · rw [e]; exact ht
      · exact e3 p hp
/-- how many different ones there are -/
theorem len_iff {ks L : List (Addr × List Int)} (nd : (L.map (·.2)).Nodup) (sub : ∀ p ∈ L, p ∈ ks) (cov : ∀ p ∈ ks, p.2 ∈ L.map (·.2)) : L.length = ks.length ↔ (ks.map (·.2)).Nodup := by
  have s1 : ∀ x ∈ L.map (·.2), x ∈ ks.map (·.2) := fun x hx => by
    obtain ⟨p, hp, rfl⟩ := List.mem_map.mp hx
    exact List.mem_map.mpr ⟨p, sub p hp, rfl⟩
  have s2 : ∀ x ∈ ks.map (·.2), x ∈ L.map (·.2) := fun x hx => by
    obtain ⟨p, hp, rfl⟩ := List.mem_map.mp hx
    exact cov p hp
  constructor
  · intro e
    have p := nodup_perm nd s1 (by rw [List.length_map, List.length_map]; omega)
    exact p.nodup_iff.mpr nd
  · intro h
    have a := nodup_le h s2
    have b := nodup_le nd s1
    rw [List.length_map, List.length_map] at a b
    omega
theorem ok_are_pairs {f : Addr} {fd : FuncData} (F : Fun K "are_pairs" "are_pairs" s_are_pairs f fd) (T : Bi mg) (M : Mm P w K mg base C) (MI : Mi K C) (CN : CNeedLike P w K mg base C U) (CI : CIsPair P w K mg base C) (CP : CPairBehind P w K mg base C) :
    FnOk P w K mg base (L2.CX P w) 4 f fd ["one", "other", "thing"] (spArePairs K C U) := by
  obtain ⟨g, mi, Fi⟩ := M.inp
  refine F.okX sc_are_pairs (fun vs H Q E h => ?_) (fun cdv A outer s H vs Q E hr h => ?_)
  · obtain ⟨v1, v2, v, G, s1, s2, r1, r2, rfl, _⟩ := h
    rfl
  · obtain ⟨v1, v2, v, G, s1, s2, r1, r2, rfl, e0, W, hv, hu⟩ := h
    refine ⟨_, (pss_cons (ps_expr (pe_cal (E := E) CN (hr.mono (by decide)) (passes_call (takes_of rfl rfl rfl rfl) (fun _ _ _ _ h => h)) (pa_cons (pe_lst (pa_cons (pv 0) (pa_cons (pv 1) pa_nil))) pa_nil)))
    (pss_cons (ps_if (PW.pt (pw_or (pt_not (pt_val (pe_callB (isi_or (.type "list")) (by rfl) T.b_isinstance (by decide +kernel) (pa_cons (pv 2) (pa_cons (pe_bltn (v := .ty "list") (by rfl) T.b_list (by decide +kernel) rfl) pa_nil))))) (pw_or1 (pt_not (pt_val (pe_callB (cr_all rfl) (by rfl) T.b_all (by decide +kernel) (pa_cons (pe_lc (own := [("pair", 3)]) (by rfl) sc_are_pairs.nd (pi_list (pv 2)) (blkOk_by (N := N_are_pairs) (sc := defScope s_are_pairs) (by decide +kernel)) (fun _ _ _ _ _ => (pg_name (i := 3) sc_are_pairs.nd rfl (.inl rfl))) (fun _ _ _ _ _ => pts_nil) (fun _ _ _ _ _ => (pe_cal CI hr pass0 (pa_cons (pv 0) (pa_cons (pv 1) (pa_cons (pv 3) pa_nil)))))) pa_nil)))))))
      (pss_one (ps_ret pe_bl))
      pss_nil)
    (pss_cons (ps_if (PW.pt (pw_or (pt_cmpR (op_notInD (Room.u65 hr)) (pe_tup (pa_cons pe_int (pa_cons pe_int pa_nil))) (pv 2) rfl) (pw_or1 (pt_cmpR op_ne (pe_callB call_lenT (by rfl) T.b_len (by decide +kernel) (pa_cons (pe_callTy (cr_setOfT rfl hr.units) (by rfl) T.b_set (by decide +kernel) (pa_cons (pv 2) pa_nil)) pa_nil)) (pe_callB call_len_seq (by rfl) T.b_len (by decide +kernel) (pa_cons (pv 2) pa_nil)) (nomark _)))))
      (pss_one (ps_ret pe_bl))
      pss_nil)
    (pss_one (ps_ret (pe_callB (cr_all rfl) (by rfl) T.b_all (by decide +kernel) (pa_cons (pe_lc2 (own := [("pair", 3), ("name", 4)]) (vs1 := [4]) (by rfl) sc_are_pairs.nd (pi_list (pv 2)) (blkOk_by (N := N_are_pairs) (sc := defScope s_are_pairs) (by decide +kernel)) (by decide)
      (fun _ _ _ _ _ => (pg_name (i := 3) sc_are_pairs.nd rfl (.inl rfl))) (fun _ _ _ _ _ => pts_nil) (fun _ _ _ _ _ => pi_listk (K := K) (pe_methSl0 (pv 0) M.m.cls mi Fi (hr.mono (by decide)) pass0)) (fun _ _ _ _ _ => (pg_name (i := 4) sc_are_pairs.nd rfl (.inl rfl))) (fun _ _ _ _ _ => pts_nil)
      (fun _ _ _ _ _ => pe_cmpR (inD_k (K := K) (Room.u65 hr)) (pe_cal CP (hr.mono (by decide)) pass0 (pa_cons (pv 0) (pa_cons (pv 1) (pa_cons (pv 3) (pa_cons (pv 4) pa_nil))))) (pv 2) rfl)) pa_nil))))))), ?_⟩
    refine ⟨_, rfl, _, rfl, (by show 2 ≤ sizeLine; decide), fun l nl => ?_⟩
    refine ⟨l, v1, v2, G, s1, s2, r1, r2, rfl, SqL.of upd_same, e0.trans (same_new nl), W.a, W.b, W.i1, W.i2, fun es H1 e1' => ?_, fun ne H1 e1' => hu ne H1 ((same_new nl).trans e1')⟩
    have e1 := (same_new (o := .lst [v1, v2]) nl).trans e1'
    clear e1' nl
    subst es
    have eG1 := e0.trans e1
    rcases hv with ⟨d, hd, fine, hv⟩ | ⟨ss, rs, hm, hv⟩
    rotate_left
    · obtain ⟨a, dx, _, _, rfl, hs, _⟩ := hm
      exact ⟨_, rfl, .inr ⟨a, C, dx, _, .ty "list", false, rfl, rfl, fun w r => r, slt_up eG1 hs, M.m.cls, MI.si, MI.nl, _, rfl, iteT (hv rfl H1 e1)⟩⟩
    replace hv := hv rfl
    have hd1 := hd.up eG1
    refine ⟨_, rfl, .inl ⟨v, .ty "list", _, _, _, rfl, .ty "list", hd1.tyx, kit_ty (kit_list d), _, rfl, ite2 (fun c => ?_) fun c => ?_⟩⟩
    · exact iteT (hv H1 false e1 ⟨fun z => (by cases z), fun z => absurd z (closed_not' (by simpa using c))⟩)
    have c' : isList d = true := by simpa using c
    obtain ⟨ds, rfl⟩ : ∃ ds, d = .list ds := by
      cases d with
      | list ds => exact ⟨ds, rfl⟩
      | _ => cases c'
    obtain ⟨a, xs, rfl, ha, hxs⟩ := hd.list_inv
    have hln := hxs.length
    have fz := fine.1 ds rfl
    have big : 200000 ≤ sizeLine := by decide
    have W0' := W
    obtain ⟨a1, dx1, _, _, rfl, hs1, _⟩ := W.a
    refine ⟨_, rfl, a, rfl, ⟨_, eG1.seq ha⟩, fun D nD => ?_⟩
    have nD0 := e1.free nD
    refine lc_list (xs := xs) (fun i H' => Same H H' ∧ H' D = some (.lst (((ds.take i).map (isPairB r1.length r2.length)).map V.bl))) ⟨same_chg e1 nD0, upd_same⟩ (fun i H' _ e => (e0.trans e.1).seq ha) ?_ ?_
    · rintro i x H' hx ⟨e2, e3⟩
      obtain ⟨dz, hdz, hx2⟩ := hxs.get hx
      have ilt := (List.getElem?_eq_some_iff.mp hx).1
      refine ⟨rfl, _, rfl, _, rfl, _, rfl, .ref a1, v2, x, dz, G, s1, s1, r1, r2, rfl, e0.trans e2, W.a, W.b, W.o1.few, W.o2.few, hx2, fun es z => fz.2 dz (List.mem_of_getElem? hdz) es z, fun H3 e4 => ?_⟩
      refine ⟨_, e4 _ _ e3, by simp; omega, same_chg (e2.trans e4) nD0, ?_⟩
      rw [upd_same, show ds.take (i + 1) = ds.take i ++ [dz] by rw [List.take_succ, hdz]; rfl, List.map_append, List.map_append]
      rfl
    rintro H2 ⟨e2, e3⟩
    rw [hln, List.take_length] at e3
    refine ⟨D, ds.map (isPairB r1.length r2.length), rfl, SqL.of e3, _, rfl, ?_⟩
    rw [List.all_map]
    refine ite2 (fun c => ?_) fun c => ?_
    · refine hv H2 false e2 ⟨fun z => (by cases z), fun z => absurd z (closed_not ?_)⟩
      simpa using c
    have alls : ds.all (isPairB r1.length r2.length) = true := by simpa using c
    obtain ⟨eds, inr⟩ := all_pairs alls
    generalize ds.map toPr = ms at eds inr
    subst eds
    clear e3 nD nD0 alls c
    have fw := fine.2 ms rfl
    have cli := closed_iff (ss := s1) inr
    have eG2 := e0.trans e2
    refine ⟨(by show 2 ≤ sizeLine; decide), fun t nt => ?_⟩
    have e3 := e2.trans (same_new (o := .tup [.int 0, .int 0]) nt)
    have k3 : upd H2 t (.tup [.int 0, .int 0]) t = some (.tup [.int 0, .int 0]) := upd_same
    show tVar _ _ (upd H2 t (.tup [.int 0, .int 0])) _
    generalize upd H2 t (.tup [.int 0, .int 0]) = H3 at e3 k3
    have eG3 := e0.trans e3
    refine ⟨_, rfl, pairD (0, 0), ms.map pairD, (DD.pair (SqT.of k3)).dp rfl, .lst (eG3.seq ha) ((hxs.up eG3).dp (plain_pairs ms)), shaped_pair _, shaped_pairs ms, _, rfl, ?_⟩
    rw [any_pair]
    refine ite2 (fun c => ?_) fun c => ?_
    · have c0 : (0, 0) ∉ ms := by simpa using c
      exact iteT (hv H3 false e3 ⟨fun z => (by cases z), fun z => absurd (cli.mp z).1 c0⟩)
    have c0 : (0, 0) ∈ ms := by simpa using c
    obtain ⟨ks, exs, eks, hks⟩ := keys_of (hxs.up eG3)
    have kl : ks.length = ms.length := by have := congrArg List.length eks; simpa using this
    refine ⟨_, rfl, a, ks, rfl, by rw [← exs]; exact eG3.seq ha, hks, by omega, fun p L np sub cov => ⟨p, L, rfl, upd_same, fun nd => ⟨_, rfl, a, xs, rfl, .inl ((same_new np).seq (eG3.seq ha)), rfl, _, rfl, ?_⟩⟩⟩
    have li := len_iff nd sub cov
    rw [eks, nodup_prL] at li
    have e4 : Same H (upd H3 p (SetTO P w p L)) := e3.trans (same_new np)
    refine ite2 (fun c => ?_) fun c => ?_
    · have nn : ¬ ms.Nodup := fun z => by
        have := li.mpr z
        rw [hln, List.length_map] at c
        rw [this, kl] at c
        simp at c
      exact hv _ false e4 ⟨fun z => (by cases z), fun z => absurd (cli.mp z).2.1 nn⟩
    have ndm : ms.Nodup := li.mp (by
      rw [hln, List.length_map] at c
      simp at c
      omega)
    have eG4 := e0.trans e4
    refine ⟨_, rfl, a, rfl, ⟨_, eG4.seq ha⟩, fun D nD => ?_⟩
    have nD0 := e4.free nD
    have W2 := W0'.two
    have i64 := W.i1.few
    -- how far the answers go
    let ok (p : Pr) (k : Str) : Prop := agree r1 r2 p k ∧ nx r1 r2 p k ∈ ms
    refine out_it (walk_list (xs := xs)) (fun i H' => ∃ bs : List Bool, Same H H' ∧ H' D = some (.lst (bs.map V.bl)) ∧ bs.length ≤ i * 64 ∧ (bs.all id = true ↔ ∀ p ∈ ms.take i, ∀ k ∈ s1, ok p k)) ⟨[], same_chg e4 nD0, upd_same, Nat.zero_le _, by simp⟩ (fun i H' _ ⟨_, e, _⟩ => (e0.trans e).seq ha) ?_ ?_
    · rintro i x H' _ hi ⟨bs, e5, e6, bl, be⟩ ⟨rfl, hx⟩
      obtain ⟨pd, hpd, hx2⟩ := hxs.get hx
      obtain ⟨p, hp, rfl⟩ : ∃ p, ms[i]? = some p ∧ pd = pairD p := by
        rw [List.getElem?_map] at hpd
        cases z : ms[i]? with
        | none => rw [z] at hpd; cases hpd
        | some p => rw [z] at hpd; exact ⟨p, rfl, (Option.some.inj hpd).symm⟩
      obtain ⟨tp, rfl, htp⟩ := pair_inv hx2
      have inp := inr p (List.mem_of_getElem? hp)
      have tkp : ms.take (i + 1) = ms.take i ++ [p] := by rw [List.take_succ, hp]; rfl
      have ilt : i < ms.length := (List.getElem?_eq_some_iff.mp hp).1
      have eG5 := e0.trans e5
      refine ⟨rfl, _, rfl, a1, dx1, _, rfl, slt_up eG5 hs1, _, G, s1, r1, rfl, eG5, W.a, fun pl npl => ?_⟩
      refine ⟨pl, rfl, ⟨_, SqL.of upd_same⟩, ?_⟩
      have npl0 := e5.free npl
      have Dpl : D ≠ pl := fun z => by rw [← z, e6] at npl; cases npl
      refine out_it (walk_list (xs := s1.map V.str)) (fun j H' => ∃ bs : List Bool, Same H H' ∧ H' D = some (.lst (bs.map V.bl)) ∧ H' pl = some (.lst (s1.map V.str)) ∧ bs.length ≤ i * 64 + j ∧ (bs.all id = true ↔ (∀ p ∈ ms.take i, ∀ k ∈ s1, ok p k) ∧ ∀ k ∈ s1.take j, ok p k))
        ⟨bs, same_chg e5 npl0, by rw [upd_ne Dpl]; exact e6, upd_same, bl, by rw [be]; simp⟩ (fun j H' _ ⟨_, _, _, h, _⟩ => SqL.of h) ?_ ?_
      · rintro j y H5 _ hj ⟨bs, e7, e8, e9, bl, be⟩ ⟨rfl, hy⟩
        obtain ⟨k, hk, rfl⟩ := at_map hy
        have kin := List.mem_of_getElem? hk
        have tk : s1.take (j + 1) = s1.take j ++ [k] := by rw [List.take_succ, hk]; rfl
        have jlt : j < s1.length := (List.getElem?_eq_some_iff.mp hk).1
        have eG7 := e0.trans e7
        have small : i * 64 + j < 63 * 64 + 64 := by omega
        have all2 : ∀ {b : Bool} (q : b = true ↔ ok p k), ((bs ++ [b]).all id = true ↔ (∀ p ∈ ms.take i, ∀ k ∈ s1, ok p k) ∧ ∀ k' ∈ s1.take (j + 1), ok p k') := fun {b} q => by
          rw [List.all_append, Bool.and_eq_true, be, tk]
          simp only [List.all_cons, List.all_nil, Bool.and_true, id_eq, q, List.mem_append, List.mem_singleton]
          constructor
          · rintro ⟨⟨h1, h2⟩, h3⟩
            exact ⟨h1, fun k' hk' => hk'.elim (h2 k') fun z => z ▸ h3⟩
          · rintro ⟨h1, h2⟩
            exact ⟨⟨h1, fun k' hk' => h2 k' (.inl hk')⟩, h2 k (.inr rfl)⟩
        refine ⟨rfl, _, rfl, _, rfl, _, rfl, _, rfl, .ref a1, v2, tp, k, G, s1, r1, r2, p, rfl, eG7, W2, sqT_up eG7 htp, inp, kin, fun ag t2 nt2 => ?_, fun nag => ?_⟩
        · have sn := same_new (o := .tup [.int (nx r1 r2 p k).1, .int (nx r1 r2 p k).2]) nt2
          have nt20 := e7.free nt2
          refine ⟨_, rfl, pairD (nx r1 r2 p k), ms.map pairD, (DD.pair (SqT.of upd_same)).dp rfl, .lst ((eG7.trans sn).seq ha) ((hxs.up (eG7.trans sn)).dp (plain_pairs ms)), shaped_pair _, shaped_pairs ms, ?_⟩
          rw [any_pair]
          refine ⟨_, sn _ _ e8, by simp; omega, bs ++ [decide (nx r1 r2 p k ∈ ms)], same_chg (e7.trans sn) nD0, by rw [upd_same, List.map_append]; rfl, by rw [upd_ne Dpl.symm]; exact sn _ _ e9, by simp; omega, all2 ?_⟩
          rw [decide_eq_true_iff]
          exact ⟨fun z => ⟨ag, z⟩, fun z => z.2⟩
        · refine ⟨_, rfl, .none, ms.map pairD, .non, .lst (eG7.seq ha) ((hxs.up eG7).dp (plain_pairs ms)), rfl, shaped_pairs ms, ?_⟩
          rw [any_none]
          refine ⟨_, e8, by simp; omega, bs ++ [false], same_chg e7 nD0, by rw [upd_same, List.map_append]; rfl, by rw [upd_ne Dpl.symm]; exact e9, by simp; omega, all2 ?_⟩
          exact ⟨fun z => (by cases z), fun z => absurd z.1 nag⟩
      · rintro H5 ⟨bs, e7, e8, e9, bl, be⟩
        rw [List.length_map] at bl be
        rw [List.take_length] at be
        refine ⟨bs, e7, e8, by rw [Nat.succ_mul]; omega, ?_⟩
        rw [be, tkp]
        constructor
        · rintro ⟨h1, h2⟩ q hq k hk
          rcases List.mem_append.mp hq with hq | hq
          · exact h1 q hq k hk
          · rw [List.mem_singleton.mp hq]; exact h2 k hk
        · intro h
          exact ⟨fun q hq k hk => h q (List.mem_append_left _ hq) k hk, fun k hk => h p (List.mem_append_right _ (by simp)) k hk⟩
    · rintro H' ⟨bs, e5, e6, bl, be⟩
      rw [hln, List.length_map, List.take_length] at be
      refine ⟨D, bs, rfl, SqL.of e6, hv H' _ e5 ?_⟩
      rw [be, cli]
      exact ⟨fun z => ⟨c0, ndm, z⟩, fun z => z.2.2⟩
end
end Kp

set_option Elab.async false
set_option linter.all false
set_option maxRecDepth 100000
namespace Kp
open PySem PySem.Spec PyProof.Rows L2 SlX
/-- two of the same data: the law finds them alike -/
def spAlike (K : PySem.W.Frag) : Sp := fun vs H Q _ => ∃ (x y : V) (d : PyData), vs = [x, y] ∧ DD K H x d ∧ DD K H y d ∧ noT d = true ∧ d.showable = true ∧ d.depth ≤ 60 ∧ d.shown.length ≤ sizeLine ∧ Q (.bl true) H
section
variable {P : Program} {w : World} {K : PySem.W.Frag} {mg : Str → Option Value} {base : Heap}
abbrev s_Lis_whole : Stmt := topS 29
abbrev N_Lis_whole : List Str := ["_law_thing"]
theorem sc_Lis_whole : FnScope N_Lis_whole ["_law_thing"] (defScope s_Lis_whole) := ⟨rfl, rfl, rfl, by decide +kernel, rfl, by decide +kernel, by decide +kernel⟩
theorem ok_Lis_whole {f : Addr} {fd : FuncData} (F : Fun K "_law_is_whole" "_law_is_whole" s_Lis_whole f fd) (T : Bi mg) : FnOk P w K mg base CX0 1 f fd ["_law_thing"] (spIsInteger K) := by
  refine F.ok sc_Lis_whole (fun vs H Q E h => ?_) (fun cdv A outer s H vs Q E hr h => ?_)
  · obtain ⟨v, d, rfl, _⟩ := h
    rfl
  · obtain ⟨v, d, rfl, hd, k⟩ := h
    refine ⟨_, (pss_one (ps_ret (pe_and (pe_callB call_isi (by rfl) T.b_isinstance (by decide +kernel) (pa_cons (pv 0) (pa_cons (pe_bltn (v := .ty "int") (by rfl) T.b_int (by decide +kernel) rfl) pa_nil))) (pe_one (pe_not (pe_callB call_isi (by rfl) T.b_isinstance (by decide +kernel) (pa_cons (pv 0) (pa_cons (pe_bltn (v := .ty "bool") (by rfl) T.b_bool (by decide +kernel) rfl) pa_nil)))))))), ?_⟩
    refine ⟨_, rfl, v, .ty "int", _, _, _, rfl, .ty "int", hd.tyx, kit_ty (kit_int d), _, rfl, ?_⟩
    refine ite2 (fun c => ⟨_, rfl, v, .ty "bool", _, _, _, rfl, .ty "bool", hd.tyx, kit_ty (kit_bool d), _, rfl, ?_⟩) fun c => ?_
    · have e : (!isBool d) = isWhole d := by cases d <;> first | rfl | cases c
      rw [e]; exact k
    · have e : false = isWhole d := by cases d <;> first | rfl | exact absurd rfl c
      rw [e]; exact k
abbrev s_Lalike : Stmt := topS 28
abbrev N_Lalike : List Str := ["_law_found", "_law_due"]
theorem sc_Lalike : FnScope N_Lalike ["_law_found", "_law_due"] (defScope s_Lalike) := ⟨rfl, rfl, rfl, by decide +kernel, rfl, by decide +kernel, by decide +kernel⟩
theorem ok_Lalike {f : Addr} {fd : FuncData} (F : Fun K "_law_alike" "_law_alike" s_Lalike f fd) (T : Bi mg) (sb : SysB base) : FnG P w K mg base CX0 1 f fd ["_law_found", "_law_due"] (spAlike K) := by
  refine okG F sc_Lalike (fun vs H Q E h => ?_) (fun cdv A outer s H vs Q E hr gA h => ?_)
  · obtain ⟨x, y, d, rfl, _⟩ := h
    rfl
  · obtain ⟨x, y, d, rfl, hx, hy, nt, sh, dp, sl, k⟩ := h
    refine ⟨_, (pss_one (ps_ret (pe_and (pe_cmpR (op_eqS hr.units) (pv 0) (pv 1) (nomark _)) (pe_one (pe_cmpR op_eq (pe_callB (call_repr gA hr.units sb) (by rfl) T.b_repr (by decide +kernel) (pa_cons (pv 0) pa_nil)) (pe_callB (call_repr gA hr.units sb) (by rfl) T.b_repr (by decide +kernel) (pa_cons (pv 1) pa_nil)) (nomark _)))))), ?_⟩
    refine ⟨_, rfl, _, rfl, d, dp, nt, hx, hy, _, rfl, iteT ?_⟩
    refine ⟨_, rfl, x, d, rfl, hx, sh, dp, sl, _, rfl, y, d, rfl, hy, sh, dp, sl, rfl, ?_⟩
    rw [decide_eq_true rfl]
    exact k
end
end Kp

set_option Elab.async false
set_option linter.all false
set_option maxRecDepth 100000
namespace Kp
open PySem PySem.Spec PyProof.Rows L2
section
variable {X : Cx}
/-- xs != []; xs == [] -/
def rEmp (K : PySem.W.Frag) (neg : Bool) : R2 := fun x y H Q => ∃ a b xs, x = .ref a ∧ y = .ref b ∧ SqL K H a xs ∧ SqL K H b [] ∧ Q (.bl (if neg then !xs.isEmpty else xs.isEmpty)) H
theorem op_neEmp (hu : X.A.units + 64 < cLine) : OpR X (compareOp .NotEq) (rEmp X.K true) := by
  intro pins s σ H x y v u Q I rx ry h
  obtain ⟨a, b, xs, rfl, rfl, ha, hb, q⟩ := h
  cases rx
  cases ry
  obtain ⟨its, r1, p1, _⟩ := I.list ha
  obtain ⟨itt, r2, p2, _⟩ := I.list hb
  cases r2
  cases r1 with
  | nil => exact SeqAt.RcNeAt.lists (e := fun _ => true) p1.isList p2.isList rfl (by omega) (fun j h1 _ => by simp at h1) _ _ _ _ ⟨.bl _, H, I, rfl, q⟩
  | cons _ _ => exact SeqAt.RcNeAt.lists_lengths p1.isList p2.isList (by simp) (by omega) _ _ _ _ ⟨.bl _, H, I, rfl, q⟩
theorem op_eqEmp (hu : X.A.units + 64 < cLine) : OpR X (compareOp .Eq) (rEmp X.K false) := by
  intro pins s σ H x y v u Q I rx ry h
  obtain ⟨a, b, xs, rfl, rfl, ha, hb, q⟩ := h
  cases rx
  cases ry
  obtain ⟨its, r1, p1, _⟩ := I.list ha
  obtain ⟨itt, r2, p2, _⟩ := I.list hb
  cases r2
  cases r1 with
  | nil => exact SeqAt.RcAt.lists (e := fun _ => true) p1.isList p2.isList rfl (by omega) (fun j h1 _ => by simp at h1) _ _ _ _ ⟨.bl _, H, I, rfl, q⟩
  | cons _ _ => exact SeqAt.RcAt.lists_lengths p1.isList p2.isList (by simp) (by omega) _ _ _ _ ⟨.bl _, H, I, rfl, q⟩
end
end Kp

set_option Elab.async false
set_option linter.all false
set_option maxRecDepth 100000
namespace Kp
open PySem PySem.Spec PyProof.Rows L2 SlX
def spLIsPair (K : PySem.W.Frag) : Sp := fun vs H Q _ => ∃ (a1 a2 : Addr) (v : V) (d : PyData) (x1 x2 : List V), vs = [.ref a1, .ref a2, v] ∧ SqL K H a1 x1 ∧ SqL K H a2 x2 ∧ DD K H v d ∧ ∀ H', Same H H' → Q (.bl (isPairB x1.length x2.length d)) H'
section
variable {P : Program} {w : World} {K : PySem.W.Frag} {mg : Str → Option Value} {base : Heap}
abbrev s_Lis_pair : Stmt := topS 38
abbrev N_Lis_pair : List Str := ["_law_one_here", "_law_other", "_law_thing", "_law_part"]
theorem sc_Lis_pair : FnScope N_Lis_pair ["_law_one_here", "_law_other", "_law_thing"] (defScope s_Lis_pair) := ⟨rfl, rfl, rfl, by decide +kernel, rfl, by decide +kernel, by decide +kernel⟩
abbrev CWhole (P : Program) (w : World) (K : PySem.W.Frag) (mg : Str → Option Value) (base : Heap) : Prop := Cal P w K mg base CX0 1 "_law_is_whole" ["_law_thing"] (spIsInteger K)
theorem ok_Lis_pair {f : Addr} {fd : FuncData} (F : Fun K "_law_is_pair" "_law_is_pair" s_Lis_pair f fd) (T : Bi mg) (CW : CWhole P w K mg base) : FnOk P w K mg base CX0 2 f fd ["_law_one_here", "_law_other", "_law_thing"] (spLIsPair K) := by
  refine F.ok sc_Lis_pair (fun vs H Q E h => ?_) (fun cdv A outer s H vs Q E hr h => ?_)
  · obtain ⟨a1, a2, v, d, x1, x2, rfl, _⟩ := h
    rfl
  · obtain ⟨a1, a2, v, d, x1, x2, rfl, h1, h2, hd, k⟩ := h
    refine ⟨_, (pss_cons (ps_if (PW.pt (pw_or (pt_not (pt_val (pe_callB call_isi (by rfl) T.b_isinstance (by decide +kernel) (pa_cons (pv 2) (pa_cons (pe_bltn (v := .ty "tuple") (by rfl) T.b_tuple (by decide +kernel) rfl) pa_nil))))) (pw_or (pt_cmpR op_ne (pe_callB call_len_seq (by rfl) T.b_len (by decide +kernel) (pa_cons (pv 2) pa_nil)) pe_int (nomark _)) (pw_or1 (pt_cmpR (op_neEmp hr.units) (pe_lc (own := [("_law_part", 3)]) (by rfl) sc_Lis_pair.nd (pi_tup (pv 2)) (blkOk_by (N := N_Lis_pair) (sc := defScope s_Lis_pair) (by decide +kernel)) (fun _ _ _ _ _ => (pg_name (i := 3) sc_Lis_pair.nd rfl (.inl rfl))) (fun _ _ _ _ _ => (pts_one (pt_not (pt_val (pe_cal CW hr pass0 (pa_cons (pv 3) pa_nil)))))) (fun _ _ _ _ _ => (pv 3))) (pe_lst pa_nil) (nomark _))))))
      (pss_one (ps_ret pe_bl))
      pss_nil)
    (pss_one (ps_ret (pe_and (pe_chain op_le op_lt pe_int (pe_ix ix_tup (pv 2) pe_int (fun _ _ => rfl)) (pe_callB call_len_seq (by rfl) T.b_len (by decide +kernel) (pa_cons (pv 0) pa_nil))) (pe_one (pe_chain op_le op_lt pe_int (pe_ix ix_tup (pv 2) pe_int (fun _ _ => rfl)) (pe_callB call_len_seq (by rfl) T.b_len (by decide +kernel) (pa_cons (pv 1) pa_nil)))))))), ?_⟩
    refine ⟨_, rfl, v, .ty "tuple", _, _, _, rfl, .ty "tuple", hd.tyx, kit_ty (kit_tup d), _, rfl, ite2 (fun c => ?_) fun c => ?_⟩
    · have c' : isTup d = false := by simpa using c
      have := k H (Same.refl H)
      rw [isPair_not c'] at this
      exact iteT this
    · have c' : isTup d = true := by simpa using c
      obtain ⟨ds, rfl⟩ : ∃ ds, d = .tuple ds := by
        cases d with
        | tuple ds => exact ⟨ds, rfl⟩
        | _ => cases c'
      obtain ⟨t, xs, rfl, ht, hxs⟩ := hd.tuple_inv
      have hln := hxs.length
      refine ⟨_, rfl, t, xs, rfl, .inr ht, rfl, _, rfl, ite2 (fun c => ?_) fun c => ?_⟩
      · have := k H (Same.refl H)
        rw [isPair_len (by intro z; rw [hln, z] at c; simp at c)] at this
        exact iteT this
      · have l2 : ds.length = 2 := by rw [hln] at c; simp at c; omega
        obtain ⟨da, db, rfl⟩ : ∃ a b, ds = [a, b] := by
          match ds, l2 with
          | [a, b], _ => exact ⟨a, b, rfl⟩
        obtain ⟨x, y, rfl, hx, hy⟩ : ∃ x y, xs = [x, y] ∧ DD K H x da ∧ DD K H y db := by
          cases hxs with
          | cons h1 h2 =>
            cases h2 with
            | cons h2 h3 =>
              cases h3
              exact ⟨_, _, rfl, h1, h2⟩
        have big : 1000 ≤ sizeLine := by decide
        refine ⟨_, rfl, t, rfl, ⟨_, ht⟩, fun D nD => ?_⟩
        refine lc_tup (xs := [x, y]) (fun i H' => Same H H' ∧ ∃ kept : List V, H' D = some (.lst kept) ∧ kept.length ≤ i ∧ (kept.isEmpty = true ↔ (([da, db].take i).all isWhole) = true)) ⟨same_new nD, [], upd_same, Nat.zero_le _, by simp⟩ (fun i H' _ e => sqT_up e.1 ht) ?_ ?_
        · rintro i z H' hz' ⟨e1, kept, e2, kl, ke⟩
          obtain ⟨dz, hdz, hb⟩ : ∃ dz, DD K H z dz ∧ [da, db][i]? = some dz := by
            match i, hz' with
            | 0, hz' => cases hz'; exact ⟨da, hx, rfl⟩
            | 1, hz' => cases hz'; exact ⟨db, hy, rfl⟩
          have ilt : i < 2 := (List.getElem?_eq_some_iff.mp hz').1
          have tk : [da, db].take (i + 1) = [da, db].take i ++ [dz] := by rw [List.take_succ, hb]; rfl
          refine ⟨rfl, _, rfl, z, dz, rfl, hdz.up e1, _, rfl, ite2 (fun c => ?_) fun c => ?_⟩
          · refine ⟨_, rfl, kept, e2, by omega, same_chg e1 nD, kept ++ [z], upd_same, by simp; omega, ?_⟩
            have c2 : isWhole dz = false := by simpa using c
            rw [tk, List.all_append]
            simp [c2]
          · have c2 : isWhole dz = true := by simpa using c
            refine ⟨e1, kept, e2, by omega, ?_⟩
            rw [tk, List.all_append, ke]
            simp [c2]
        · rintro H' ⟨e1, kept, e2, kl, ke⟩
          refine ⟨by show 0 ≤ sizeLine; decide, fun D2 nD2 => ⟨D, D2, kept, rfl, rfl, (same_new nD2).seq (SqL.of e2), SqL.of upd_same, _, rfl, ?_⟩⟩
          have e3 : Same H (upd H' D2 (.lst [])) := same_chg e1 (e1.free nD2)
          generalize upd H' D2 (.lst []) = H2 at e3
          refine ite2 (fun c => ?_) fun c => ?_
          · have := k H2 e3
            have nw : ([da, db].all isWhole) = false := by
              have z : ¬ ((([da, db].take 2).all isWhole) = true) := fun y => by
                rw [ke.mpr y] at c
                cases c
              simpa using z
            rw [isPair_whole nw] at this
            exact this
          · have em : kept.isEmpty = true := by
              have z : ¬ ((!kept.isEmpty) = true) := c
              simpa using z
            have both : isWhole da = true ∧ isWhole db = true := by
              have := ke.mp em
              simpa using this
            obtain ⟨i, rfl⟩ : ∃ i, da = .int i := by cases da <;> first | exact ⟨_, rfl⟩ | cases both.1
            obtain ⟨j, rfl⟩ : ∃ i, db = .int i := by cases db <;> first | exact ⟨_, rfl⟩ | cases both.2
            rw [hx.int_inv, hy.int_inv] at ht
            have ht' := sqT_up e3 ht
            have fin := k H2 e3
            have no : ∀ {b : Bool}, isPairB x1.length x2.length (.tuple [.int i, .int j]) = b → Q (.bl b) H2 := fun e => e ▸ fin
            have val : isPairB x1.length x2.length (.tuple [.int i, .int j]) = ((decide (0 ≤ i) && decide (i < x1.length)) && (decide (0 ≤ j) && decide (j < x2.length))) := rfl
            refine ⟨_, rfl, t, _, _, .int i, rfl, rfl, ht', rfl, _, _, rfl, rfl, _, rfl, ite2 (fun c1 => ?_) fun c1 => ?_⟩
            · refine ⟨_, rfl, a1, x1, rfl, .inl (e3.seq h1), _, _, rfl, rfl, _, rfl, ite2 (fun c2 => ?_) fun c2 => ?_⟩
              · refine ⟨_, rfl, t, _, _, .int j, rfl, rfl, ht', rfl, _, _, rfl, rfl, _, rfl, ite2 (fun c3 => ?_) fun c3 => ?_⟩
                · refine ⟨_, rfl, a2, x2, rfl, .inl (e3.seq h2), _, _, rfl, rfl, no ?_⟩
                  rw [val, c1, c2, c3]; rfl
                · refine no ?_
                  rw [val, c1, c2, show decide (0 ≤ j) = false by simpa using c3]; rfl
              · refine no ?_
                rw [val, c1, show decide (i < x1.length) = false by simpa using c2]; rfl
            · refine ⟨_, rfl, iteF (no ?_)⟩
              rw [val, show decide (0 ≤ i) = false by simpa using c1]; rfl
end
end Kp

set_option Elab.async false
set_option linter.all false
set_option maxRecDepth 100000
namespace Kp
open PySem PySem.Spec PyProof.Rows L2 SlX
theorem pairs_off {K : PySem.W.Frag} {H : Hp} {d : Addr} {kvs : List (L2.Key × V)} {o : HO} (hd : H d = some (.dK kvs)) : ∀ {xs : List V} {ms : List Pr}, DDs K H xs (ms.map pairD) → DDs K (upd H d o) xs (ms.map pairD)
  | _, [], h => by cases h; exact .nil
  | _, m :: ms, h => by
    cases h with
    | cons h1 h2 =>
      obtain ⟨t, rfl, ht⟩ := pair_inv h1
      exact .cons (DD.pair (sqT_off ht hd)) (pairs_off hd h2)
/-- a dict read while one is locked -/
theorem rd_off {H : Hp} {d e : Addr} {kvs kws : List (L2.Key × V)} {o : Obj} (hd : H d = some (.dK kvs)) (he : H e = some (.dK kws)) : Rd (upd H d (.frz o (.dK kvs))) e (.dK kws) := by
  by_cases q : e = d
  · rw [q] at he ⊢
    rw [hd] at he
    cases he
    exact .inr ⟨o, upd_same⟩
  · exact .inl (by rw [upd_ne q]; exact he)
/-- rules that stand, by places -/
structure Ru (K : PySem.W.Frag) (G : Hp) (a : Addr) (xs : List V) (ins : List Str) (rs : List Row) : Prop where
  at_ : SqL K G a xs
  dd : DDs K G xs (rs.map rowD)
  ok : OkRules ins rs
theorem Ru.up {K : PySem.W.Frag} {G H : Hp} {a : Addr} {xs : List V} {ins : List Str} {rs : List Row} (h : Ru K G a xs ins rs) (e : Same G H) : Ru K H a xs ins rs := ⟨e.seq h.at_, h.dd.up e, h.ok⟩
theorem ru_of {K : PySem.W.Frag} {G : Hp} {v : V} {ins : List Str} {rs : List Row} (h : DD K G v (rulesD rs)) (o : OkRules ins rs) : ∃ a xs, v = .ref a ∧ Ru K G a xs ins rs := by
  obtain ⟨a, xs, e, h1, h2⟩ := h.list_inv
  exact ⟨a, xs, e, h1, h2, o⟩
theorem Ru.row {K : PySem.W.Frag} {G : Hp} {a : Addr} {xs : List V} {ins : List Str} {rs : List Row} (h : Ru K G a xs ins rs) (oi : ins ≠ []) {q : Int} (q0 : 0 ≤ q) (q1 : q < rs.length) :
    ∃ d kvs r, atI xs q = some (.ref d) ∧ xs[q.toNat]? = some (.ref d) ∧ rs[q.toNat]? = some r ∧ rs.getD q.toNat [] = r ∧ OkRow ins rs.length r ∧ G d = some (.dK kvs) ∧ kvs.map (·.1) = r.map (fun p => Sum.inr p.1) ∧ DDs K G (kvs.map (·.2)) (r.map fun p => stD p.2) := by
  obtain ⟨r, e1, e2, ok⟩ := h.ok.row q0 q1
  have rne : r ≠ [] := fun e => by
    have := ok.keys.length_eq
    rw [e] at this
    exact oi (List.eq_nil_of_length_eq_zero (by simpa using this.symm))
  obtain ⟨x, ex, hx⟩ := h.dd.getD (i := q.toNat) (show (rs.map rowD)[q.toNat]? = some (rowD r) by rw [List.getElem?_map, e1]; rfl)
  obtain ⟨d, kvs, rfl, hd, hk, hs⟩ := row_inv hx rne
  exact ⟨d, kvs, r, at_of (by omega) ex, ex, e1, e2, ok, hd, hk, hs⟩
/-- one step read out of a row -/
theorem Ru.stp {K : PySem.W.Frag} {G : Hp} {a : Addr} {xs : List V} {ins : List Str} {rs : List Row} (h : Ru K G a xs ins rs) {q : Int} {k : Str} {kvs : List (L2.Key × V)} {r : Row} (e : rs.getD q.toNat [] = r) (ok : OkRow ins rs.length r)
    (hk : kvs.map (·.1) = r.map (fun p => Sum.inr p.1)) (hs : DDs K G (kvs.map (·.2)) (r.map fun p => stD p.2)) (kin : k ∈ ins) : ∃ t, valV kvs (Sum.inr k) = some (.ref t) ∧ SqT K G t [.int (Kp.stp rs q k).1, .str (Kp.stp rs q k).2] := by
  obtain ⟨v, e1, hv⟩ := valV_row hk hs (ok.keys.mem_iff.mpr kin)
  obtain ⟨t, rfl, ht⟩ := step_inv hv
  refine ⟨t, e1, ?_⟩
  unfold Kp.stp
  rw [e]
  exact ht
def spLAreClosed (K : PySem.W.Frag) : Sp := fun vs H Q _ => ∃ (a1 a2 : Addr) (v : V) (d : PyData) (G : Hp) (x1 x2 : List V) (ins : List Str) (r1 r2 : List Row), vs = [.ref a1, .ref a2, v] ∧ Same G H ∧ Ru K G a1 x1 ins r1 ∧ Ru K G a2 x2 ins r2 ∧ OkIns ins ∧ DD K G v d ∧ Fine d ∧ ∀ H' b, Same H H' → (b = true ↔ Closed ins r1 r2 d) → Q (.bl b) H'
section
variable {P : Program} {w : World} {K : PySem.W.Frag} {mg : Str → Option Value} {base : Heap}
abbrev s_Lare_closed : Stmt := topS 39
abbrev N_Lare_closed : List Str := ["_law_one_here", "_law_other", "_law_thing", "_law_here", "_law_there", "_law_word", "_law_first", "_law_last", "_law_part"]
theorem sc_Lare_closed : FnScope N_Lare_closed ["_law_one_here", "_law_other", "_law_thing"] (defScope s_Lare_closed) := ⟨rfl, rfl, rfl, by decide +kernel, rfl, by decide +kernel, by decide +kernel⟩
abbrev CLIsPair (P : Program) (w : World) (K : PySem.W.Frag) (mg : Str → Option Value) (base : Heap) : Prop := Cal P w K mg base CX0 2 "_law_is_pair" ["_law_one_here", "_law_other", "_law_thing"] (spLIsPair K)
theorem ok_Lare_closed {f : Addr} {fd : FuncData} (F : Fun K "_law_are_closed" "_law_are_closed" s_Lare_closed f fd) (T : Bi mg) (CI : CLIsPair P w K mg base) : FnOk P w K mg base CX0 3 f fd ["_law_one_here", "_law_other", "_law_thing"] (spLAreClosed K) := by
  refine F.ok sc_Lare_closed (fun vs H Q E h => ?_) (fun cdv A outer s H vs Q E hr h => ?_)
  · obtain ⟨a1, a2, v, d, G, x1, x2, ins, r1, r2, rfl, _⟩ := h
    rfl
  · obtain ⟨a1, a2, v, d, G, x1, x2, ins, r1, r2, rfl, e0, R1, R2, oi, hd, fine, hv⟩ := h
    refine ⟨_, (pss_cons (ps_if (PW.pt (pw_or (pt_not (pt_val (pe_callB call_isi (by rfl) T.b_isinstance (by decide +kernel) (pa_cons (pv 2) (pa_cons (pe_bltn (v := .ty "list") (by rfl) T.b_list (by decide +kernel) rfl) pa_nil))))) (pw_or1 (pt_cmpR (op_neEmp hr.units) (pe_lc (own := [("_law_part", 8)]) (by rfl) sc_Lare_closed.nd (pi_list (pv 2)) (blkOk_by (N := N_Lare_closed) (sc := defScope s_Lare_closed) (by decide +kernel)) (fun _ _ _ _ _ => (pg_name (i := 8) sc_Lare_closed.nd rfl (.inl rfl))) (fun _ _ _ _ _ => (pts_one (pt_not (pt_val (pe_cal CI hr pass0 (pa_cons (pv 0) (pa_cons (pv 1) (pa_cons (pv 8) pa_nil)))))))) (fun _ _ _ _ _ => (pv 8))) (pe_lst pa_nil) (nomark _)))))
      (pss_one (ps_ret pe_bl))
      pss_nil)
    (pss_cons (ps_if (PW.pt (pw_or (pt_cmpR (op_notInD (Room.u65 hr)) (pe_tup (pa_cons pe_int (pa_cons pe_int pa_nil))) (pv 2) rfl) (pw_or1 (pt_cmpR op_ne (pe_callB call_lenT (by rfl) T.b_len (by decide +kernel) (pa_cons (pe_callTy (cr_setOfT rfl hr.units) (by rfl) T.b_set (by decide +kernel) (pa_cons (pv 2) pa_nil)) pa_nil)) (pe_callB call_len_seq (by rfl) T.b_len (by decide +kernel) (pa_cons (pv 2) pa_nil)) (nomark _)))))
      (pss_one (ps_ret pe_bl))
      pss_nil)
    (pss_cons (ps_for PassesOwn.never rfl (pi_list (pv 2)) (pg_tup rfl (pgs_cons (pg_name (i := 3) sc_Lare_closed.nd rfl (.inl rfl)) (pgs_cons (pg_name (i := 4) sc_Lare_closed.nd rfl (.inl rfl)) pgs_nil)))
      (pss_one (ps_lock (ps_for PassesOwn.never rfl (pi_keys (pe_ix ix_list (pv 0) (pv 3) (fun _ _ => rfl))) (pg_name (i := 5) sc_Lare_closed.nd rfl (.inl rfl))
        (pss_cons (ps_par (i := 6) (j := 7) (by rfl) sc_Lare_closed.nd rfl rfl (by decide) rfl rfl (pa_cons (pe_dget (hu_of hr) (pe_ix ix_list (pv 0) (pv 3) (fun _ _ => rfl)) (pv 5) (fun _ _ => rfl)) (pa_cons (pe_dget (hu_of hr) (pe_ix ix_list (pv 1) (pv 4) (fun _ _ => rfl)) (pv 5) (fun _ _ => rfl)) pa_nil)) (by rfl))
        (pss_one (ps_if (PW.pt (pw_or (pt_cmpR op_ne (pe_ix ix_tup (pv 6) pe_int (fun _ _ => rfl)) (pe_ix ix_tup (pv 7) pe_int (fun _ _ => rfl)) (nomark _)) (pw_or1 (pt_cmpR (op_notInD (Room.u65 hr)) (pe_tup (pa_cons (pe_ix ix_tup (pv 6) pe_int (fun _ _ => rfl)) (pa_cons (pe_ix ix_tup (pv 7) pe_int (fun _ _ => rfl)) pa_nil))) (pv 2) rfl))))
          (pss_one (ps_ret pe_bl))
          pss_nil)))))))
    (pss_one (ps_ret pe_bl))))), ?_⟩
    have hd1 := hd.up e0
    have n1 := R1.dd.length
    have n2 := R2.dd.length
    rw [List.length_map] at n1 n2
    refine ⟨_, rfl, v, .ty "list", _, _, _, rfl, .ty "list", hd1.tyx, kit_ty (kit_list d), _, rfl, ite2 (fun c => ?_) fun c => ?_⟩
    · exact iteT (hv H false (Same.refl H) ⟨fun z => (by cases z), fun z => absurd z (closed_not' (by simpa using c))⟩)
    have c' : isList d = true := by simpa using c
    obtain ⟨ds, rfl⟩ : ∃ ds, d = .list ds := by
      cases d with
      | list ds => exact ⟨ds, rfl⟩
      | _ => cases c'
    obtain ⟨a, xs, rfl, ha, hxs⟩ := hd.list_inv
    have hln := hxs.length
    have fz := fine.1 ds rfl
    have big : 200000 ≤ sizeLine := by decide
    refine ⟨_, rfl, a, rfl, ⟨_, e0.seq ha⟩, fun D nD => ?_⟩
    refine lc_list (xs := xs) (fun i H' => Same H H' ∧ ∃ kept : List V, H' D = some (.lst kept) ∧ kept.length ≤ i ∧ (kept.isEmpty = true ↔ ((ds.take i).all (isPairB r1.length r2.length)) = true)) ⟨same_new nD, [], upd_same, Nat.zero_le _, by simp⟩ (fun i H' _ e => (e0.trans e.1).seq ha) ?_ ?_
    · rintro i x H' hx ⟨e2, kept, e3, kl, ke⟩
      obtain ⟨dz, hdz, hx2⟩ := hxs.get hx
      have ilt := (List.getElem?_eq_some_iff.mp hx).1
      have tk : ds.take (i + 1) = ds.take i ++ [dz] := by rw [List.take_succ, hdz]; rfl
      refine ⟨rfl, _, rfl, _, rfl, _, rfl, a1, a2, x, dz, x1, x2, rfl, (e0.trans e2).seq R1.at_, (e0.trans e2).seq R2.at_, hx2.up (e0.trans e2), fun H3 e4 => ⟨_, rfl, ite2 (fun c => ?_) fun c => ?_⟩⟩
      · have c2 : isPairB r1.length r2.length dz = false := by rw [← n1, ← n2]; simpa using c
        refine ⟨_, rfl, kept, e4 _ _ e3, by omega, same_chg (e2.trans e4) nD, kept ++ [x], upd_same, by simp; omega, ?_⟩
        rw [tk, List.all_append]
        simp [c2]
      · have c2 : isPairB r1.length r2.length dz = true := by rw [← n1, ← n2]; simpa using c
        refine ⟨e2.trans e4, kept, e4 _ _ e3, by omega, ?_⟩
        rw [tk, List.all_append, ke]
        simp [c2]
    rintro H1 ⟨e1, kept, e3, kl, ke⟩
    rw [hln, List.take_length] at ke
    refine ⟨by show 0 ≤ sizeLine; decide, fun D2 nD2 => ⟨D, D2, kept, rfl, rfl, (same_new nD2).seq (SqL.of e3), SqL.of upd_same, _, rfl, ?_⟩⟩
    have e2 : Same H (upd H1 D2 (.lst [])) := same_chg e1 (e1.free nD2)
    generalize upd H1 D2 (.lst []) = H2 at e2
    refine ite2 (fun c => ?_) fun c => ?_
    · refine hv H2 false e2 ⟨fun z => (by cases z), fun z => absurd z (closed_not ?_)⟩
      have z : ¬ ((ds.all (isPairB r1.length r2.length)) = true) := fun y => by
        rw [ke.mpr y] at c
        cases c
      simpa using z
    have em : kept.isEmpty = true := by
      have z : ¬ ((!kept.isEmpty) = true) := c
      simpa using z
    have alls := ke.mp em
    obtain ⟨eds, inr⟩ := all_pairs alls
    generalize ds.map toPr = ms at eds inr
    subst eds
    clear e3 ke em alls c
    have fw := fine.2 ms rfl
    have cli := closed_iff (ss := ins) inr
    refine ⟨(by show 2 ≤ sizeLine; decide), fun t nt => ?_⟩
    have e3 := e2.trans (same_new (o := .tup [.int 0, .int 0]) nt)
    have k3 : upd H2 t (.tup [.int 0, .int 0]) t = some (.tup [.int 0, .int 0]) := upd_same
    show tVar _ _ (upd H2 t (.tup [.int 0, .int 0])) _
    generalize upd H2 t (.tup [.int 0, .int 0]) = H3 at e3 k3
    have eG3 := e0.trans e3
    refine ⟨_, rfl, pairD (0, 0), ms.map pairD, (DD.pair (SqT.of k3)).dp rfl, .lst (eG3.seq ha) ((hxs.up eG3).dp (plain_pairs ms)), shaped_pair _, shaped_pairs ms, _, rfl, ?_⟩
    rw [any_pair]
    refine ite2 (fun c => ?_) fun c => ?_
    · have c0 : (0, 0) ∉ ms := by simpa using c
      exact iteT (hv H3 false e3 ⟨fun z => (by cases z), fun z => absurd (cli.mp z).1 c0⟩)
    have c0 : (0, 0) ∈ ms := by simpa using c
    obtain ⟨ks, exs, eks, hks⟩ := keys_of (hxs.up eG3)
    have kl2 : ks.length = ms.length := by have := congrArg List.length eks; simpa using this
    refine ⟨_, rfl, a, ks, rfl, by rw [← exs]; exact eG3.seq ha, hks, by omega, fun p L np sub cov => ⟨p, L, rfl, upd_same, fun nd => ⟨_, rfl, a, xs, rfl, .inl ((same_new np).seq (eG3.seq ha)), rfl, _, rfl, ?_⟩⟩⟩
    have li := len_iff nd sub cov
    rw [eks, nodup_prL] at li
    have e4 : Same H (upd H3 p (SetTO P w p L)) := e3.trans (same_new np)
    refine ite2 (fun c => ?_) fun c => ?_
    · have nn : ¬ ms.Nodup := fun z => by
        have := li.mpr z
        rw [hln, List.length_map] at c
        rw [this, kl2] at c
        simp at c
      exact hv _ false e4 ⟨fun z => (by cases z), fun z => absurd (cli.mp z).2.1 nn⟩
    have ndm : ms.Nodup := li.mp (by
      rw [hln, List.length_map] at c
      simp at c
      omega)
    let okp (p : Pr) (k : Str) : Prop := agree r1 r2 p k ∧ nx r1 r2 p k ∈ ms
    refine ⟨_, rfl, a, rfl, ⟨_, (e0.trans e4).seq ha⟩, ?_⟩
    refine for_list (xs := xs) (fun i σ' H' => ∃ c3 c4 c5 c6 c7 c8 : Option V, σ' = [some (.ref a1), some (.ref a2), some (.ref a), c3, c4, c5, c6, c7, c8] ∧ Same H H' ∧ ∀ p ∈ ms.take i, ∀ k ∈ ins, okp p k) ⟨none, none, none, none, none, none, rfl, e4, fun p hp => (by simp at hp)⟩ (fun i σ' H' _ ⟨_, _, _, _, _, _, _, e, _⟩ => (e0.trans e).seq ha) ?_ ?_
    · rintro i x σ' H' hx ⟨c3, c4, c5, c6, c7, c8, rfl, e5, be⟩
      obtain ⟨pd, hpd, hx2⟩ := hxs.get hx
      obtain ⟨q, hq, rfl⟩ : ∃ q, ms[i]? = some q ∧ pd = pairD q := by
        rw [List.getElem?_map] at hpd
        cases z : ms[i]? with
        | none => rw [z] at hpd; cases hpd
        | some q => rw [z] at hpd; exact ⟨q, rfl, (Option.some.inj hpd).symm⟩
      obtain ⟨tq, rfl, htq⟩ := pair_inv hx2
      have inq := inr q (List.mem_of_getElem? hq)
      have tkq : ms.take (i + 1) = ms.take i ++ [q] := by rw [List.take_succ, hq]; rfl
      have eG := e0.trans e5
      have S1 := R1.up eG
      have S2 := R2.up eG
      obtain ⟨d1, kv1, row1, at1, _, _, g1, ok1, hd1, hk1, hs1⟩ := S1.row oi.ne inq.1.1 inq.1.2
      obtain ⟨d2, kv2, row2, at2, _, _, g2, ok2, hd2, hk2, hs2⟩ := S2.row oi.ne inq.2.1 inq.2.2
      have r1len : kv1.length = ins.length := by
        have z1 := congrArg List.length hk1
        have z2 := ok1.keys.length_eq
        simp at z1 z2
        omega
      refine ⟨tq, _, rfl, sqT_up eG htq, rfl, _, _, rfl, _, _, rfl, rfl, ?_⟩
      refine ⟨d1, _, hd1, trivial, fun od => ?_⟩
      have lk1 : SqL K (upd H' d1 (.frz od (.dK kv1))) a1 x1 := sqL_off S1.at_ hd1
      have lk2 : SqL K (upd H' d1 (.frz od (.dK kv1))) a2 x2 := sqL_off S2.at_ hd1
      have lka : SqL K (upd H' d1 (.frz od (.dK kv1))) a xs := sqL_off (eG.seq ha) hd1
      have lkx := pairs_off (o := .frz od (.dK kv1)) hd1 (hxs.up eG)
      have lkd : Rd (upd H' d1 (.frz od (.dK kv1))) d2 (.dK kv2) := rd_off hd1 hd2
      have fr : upd H' d1 (.frz od (.dK kv1)) d1 = some (.frz od (.dK kv1)) := upd_same
      have back : ∀ {H'' : Hp}, Same (upd H' d1 (.frz od (.dK kv1))) H'' → Same H (upd H'' d1 (.dK kv1)) := fun z => e5.trans (same_unlock z hd1)
      have steps : ∀ {k : Str}, k ∈ ins → ∃ t1 t2, valV kv1 (Sum.inr k) = some (.ref t1) ∧ valV kv2 (Sum.inr k) = some (.ref t2) ∧ SqT K (upd H' d1 (.frz od (.dK kv1))) t1 [.int (Kp.stp r1 q.1 k).1, .str (Kp.stp r1 q.1 k).2] ∧ SqT K (upd H' d1 (.frz od (.dK kv1))) t2 [.int (Kp.stp r2 q.2 k).1, .str (Kp.stp r2 q.2 k).2] := fun {k} kin => by
        obtain ⟨t1, v1, q1⟩ := S1.stp g1 ok1 hk1 hs1 kin
        obtain ⟨t2, v2, q2⟩ := S2.stp g2 ok2 hk2 hs2 kin
        exact ⟨t1, t2, v1, v2, sqT_off q1 hd1, sqT_off q2 hd1⟩
      have base0 : Same (upd H' d1 (.frz od (.dK kv1))) (upd H' d1 (.frz od (.dK kv1))) := Same.refl _
      generalize upd H' d1 (.frz od (.dK kv1)) = Hl at lk1 lk2 lka lkx lkd fr back steps base0
      refine ⟨_, rfl, _, rfl, a1, x1, _, .ref d1, rfl, rfl, lk1, at1, d1, od, rfl, .inl ⟨kv1, fr, ?_⟩⟩
      refine for_it walk_keys (fun j σ' H' => ∃ c5 c6 c7 c8 : Option V, σ' = [some (.ref a1), some (.ref a2), some (.ref a), some (.int q.1), some (.int q.2), c5, c6, c7, c8] ∧ Same Hl H' ∧ ∀ k ∈ (row1.map (·.1)).take j, okp q k) ⟨c5, c6, c7, c8, rfl, base0, fun k hk => (by simp at hk)⟩ (fun j σ' H' _ ⟨_, _, _, _, _, e, _⟩ => e _ _ fr) ?_ ?_
      · rintro j y σ' H5 H6 hj ⟨c5, c6, c7, c8, rfl, e6, bk⟩ ⟨rfl, kk, vv, hkv, rfl⟩
        obtain ⟨k, rfl, hkr⟩ : ∃ k : Str, kk = Sum.inr k ∧ (row1.map (·.1))[j]? = some k := by
          have e1 : (kv1.map (·.1))[j]? = some kk := by rw [List.getElem?_map, hkv]; rfl
          rw [hk1, List.getElem?_map] at e1
          rw [List.getElem?_map]
          cases z : row1[j]? with
          | none => rw [z] at e1; cases e1
          | some p => rw [z] at e1; exact ⟨p.1, (Option.some.inj e1).symm, rfl⟩
        have kin : k ∈ ins := ok1.keys.mem_iff.mp (List.mem_of_getElem? hkr)
        have tk : (row1.map (·.1)).take (j + 1) = (row1.map (·.1)).take j ++ [k] := by rw [List.take_succ, hkr]; rfl
        obtain ⟨t1, t2, v1, v2, q1, q2⟩ := steps kin
        have u1 := sqT_up e6 q1
        have u2 := sqT_up e6 q2
        refine ⟨_, rfl, _, rfl, a1, x1, _, .ref d1, rfl, rfl, e6.seq lk1, at1, _, rfl, d1, .ref t1, rfl, .inl ⟨kv1, Sum.inr k, .inr ⟨od, e6 _ _ fr⟩, rfl, v1.symm⟩, ?_⟩
        refine ⟨_, rfl, _, rfl, a2, x2, _, .ref d2, rfl, rfl, e6.seq lk2, at2, _, rfl, d2, .ref t2, rfl, .inl ⟨kv2, Sum.inr k, rd_up e6 lkd, rfl, v2.symm⟩, _, _, rfl, ?_⟩
        refine ⟨_, rfl, t1, _, _, .str _, rfl, rfl, u1, rfl, _, rfl, t2, _, _, .str _, rfl, rfl, u2, rfl, rfl, _, rfl, ite2 (fun c => ?_) fun c => ?_⟩
        · have nag : ¬ agree r1 r2 q k := fun ag => by
            have z : V.str (Kp.stp r1 q.1 k).2 = V.str (Kp.stp r2 q.2 k).2 := congrArg V.str ag
            rw [z] at c
            simp at c
          refine iteT ⟨e6 _ _ fr, hv _ false (back e6) ⟨fun z => (by cases z), fun z => absurd ((cli.mp z).2.2 q (List.mem_of_getElem? hq) k kin).1 nag⟩⟩
        · have ag : agree r1 r2 q k := by
            have z : V.str (Kp.stp r1 q.1 k).2 = V.str (Kp.stp r2 q.2 k).2 := by simpa using c
            injection z
          refine ⟨_, rfl, t1, _, _, .int _, rfl, rfl, u1, rfl, _, rfl, t2, _, _, .int _, rfl, rfl, u2, rfl, (by show 2 ≤ sizeLine; decide), fun t5 nt5 => ?_⟩
          have s5 := same_new (o := .tup [.int (Kp.stp r1 q.1 k).1, .int (Kp.stp r2 q.2 k).1]) nt5
          have e7 := e6.trans s5
          have k5 : upd H6 t5 (.tup [.int (Kp.stp r1 q.1 k).1, .int (Kp.stp r2 q.2 k).1]) t5 = some (.tup [.int (nx r1 r2 q k).1, .int (nx r1 r2 q k).2]) := upd_same
          refine ⟨_, rfl, pairD (nx r1 r2 q k), ms.map pairD, (DD.pair (SqT.of k5)).dp rfl, .lst (e7.seq lka) ((lkx.up e7).dp (plain_pairs ms)), shaped_pair _, shaped_pairs ms, _, rfl, ?_⟩
          rw [any_pair]
          refine ite2 (fun c2 => ?_) fun c2 => ?_
          · have nm : nx r1 r2 q k ∉ ms := by simpa using c2
            exact ⟨e7 _ _ fr, hv _ false (back e7) ⟨fun z => (by cases z), fun z => absurd ((cli.mp z).2.2 q (List.mem_of_getElem? hq) k kin).2 nm⟩⟩
          · have nm : nx r1 r2 q k ∈ ms := by simpa using c2
            refine ⟨_, _, _, _, rfl, e7, fun k' hk' => ?_⟩
            rw [tk] at hk'
            rcases List.mem_append.mp hk' with h | h
            · exact bk k' h
            · rw [List.mem_singleton.mp h]; exact ⟨ag, nm⟩
      · rintro σ' H5 ⟨c5, c6, c7, c8, rfl, e6, bk⟩
        refine ⟨e6 _ _ fr, _, _, _, _, _, _, rfl, back e6, fun p hp k hk => ?_⟩
        rw [tkq] at hp
        rcases List.mem_append.mp hp with h | h
        · exact be p h k hk
        · rw [List.mem_singleton.mp h]
          refine bk k ?_
          have e9 : kv1.length = (row1.map (·.1)).length := by
            have := congrArg List.length hk1
            simpa using this
          rw [e9, List.take_length]
          exact ok1.keys.mem_iff.mpr hk
    · rintro σ' H' ⟨c3, c4, c5, c6, c7, c8, rfl, e5, be⟩
      rw [hln, List.length_map, List.take_length] at be
      exact hv H' true e5 ⟨fun _ => cli.mpr ⟨c0, ndm, be⟩, fun _ => rfl⟩
end
end Kp

set_option Elab.async false
set_option linter.all false
set_option maxRecDepth 100000
namespace Kp
open PySem PySem.Spec PyProof.Rows L2
/-! ### the names that the law draws -/
def menuText : Str := "goo iff nono tells wit yess unlik alik a b yesno withgo tellif goif ann bob noyes ifno"
def menuZ : List Str := ["goo", "iff", "nono", "tells", "wit", "yess", "unlik", "alik", "a", "b", "yesno", "withgo", "tellif", "goif", "ann", "bob", "noyes", "ifno"]
def qqZ : Str := "qqqqqqqq"
theorem menu_split : Txt.split menuText " " = menuZ := by decide +kernel
def nm0 (at_ i : Nat) : Str := (menuZ ++ menuZ).getD (at_ + i) Str.empty
def nm1 (i : Nat) : Str := cutS "aaaaaaaa" none (some ((i : Int) + 1))
def letter (at_ i : Nat) : Nat := lettersZ.cps.toList.getD ((at_ + 5 * i) % 26) 0
def nm2 (stem : Str) (at_ i : Nat) : Str := stem ++ ⟨#[letter at_ i]⟩
def goodN (l : List Str) : Bool := decide l.Nodup && (l.all isName && decide (qqZ ∉ l))
def upTo (n : Nat) (f : Nat → Str) : List Str := (List.range n).map f
theorem good0 : ∀ a < 18, ∀ n < 4, goodN (upTo n (nm0 a)) = true := by decide +kernel
theorem good1 : ∀ n < 4, goodN (upTo n nm1) = true := by decide +kernel
theorem good2 : ∀ a < 18, ∀ n < 4, goodN (upTo n (nm2 Str.empty a)) = true := by decide +kernel
theorem good3 : ∀ a < 18, ∀ n < 4, goodN (upTo n (nm2 "zzzzzzz" a)) = true := by decide +kernel
theorem upTo_length (n : Nat) (f : Nat → Str) : (upTo n f).length = n := by unfold upTo; simp
theorem upTo_succ (n : Nat) (f : Nat → Str) : upTo (n + 1) f = upTo n f ++ [f n] := by unfold upTo; rw [List.range_succ, List.map_append]; rfl
/-- names drawn: n of them -/
structure Nms (n : Nat) (xs : List Str) : Prop where
  len : xs.length = n
  nd : xs.Nodup
  ok : ∀ x ∈ xs, isName x = true
  no : qqZ ∉ xs
theorem nms_of {n : Nat} {f : Nat → Str} (h : goodN (upTo n f) = true) : Nms n (upTo n f) := by
  unfold goodN at h
  simp only [Bool.and_eq_true, decide_eq_true_eq, List.all_eq_true] at h
  exact ⟨upTo_length n f, h.1, h.2.1, h.2.2⟩
theorem Nms.ins {n : Nat} {xs : List Str} (h : Nms n xs) (h0 : 0 < n) (h1 : n < 64) : OkIns xs := ⟨fun e => by have := h.len; rw [e] at this; simp at this; omega, by rw [h.len]; exact h1, h.nd, h.ok⟩
end Kp

set_option Elab.async false
set_option linter.all false
set_option maxRecDepth 100000
namespace Kp
open PySem PySem.Spec PyProof.Rows L2 SlX
/-- new behind a drawing call is new ahead of it -/
theorem Gr.freeB {b p : Addr} {G H G1 H1 : Hp} (s : BagAt G1 H1 b) (g : Gr (· = b) G H G1 H1) (n : H1 p = none) : H p = none := by
  cases z : H p with
  | none => rfl
  | some o =>
    have pb : ¬ p = b := fun e => s.some (by rw [← e]; exact n)
    rw [g.old p o pb z] at n
    cases n
/-- two draws, one behind the other, and more -/
theorem BagAt.sameH {b : Addr} {G G' H H' : Hp} (h : BagAt G H b) (e : Same H H') (g : Same G G') : BagAt G' H' b := by
  obtain ⟨l, z0, z1, z2, ns, h1, h2, r⟩ := h
  exact ⟨l, z0, z1, z2, ns, e _ _ h1, g _ _ h2, r⟩
theorem getD_at {α : Type} {l : List α} {j : Nat} {d : α} (h : j < l.length) : l[j]? = some (l.getD j d) := by
  rw [List.getD_eq_getElem?_getD, List.getElem?_eq_getElem h]; rfl
theorem atI_any {α : Type} {xs : List α} {i : Int} {j : Nat} {v : α} (h : i = (j : Int)) (e : xs[j]? = some v) : atI xs i = some v := by
  subst h
  have lt := (List.getElem?_eq_some_iff.mp e).1
  unfold atI ixN
  simp [lt]
  exact (List.getElem?_eq_some_iff.mp e).2
theorem bt_int : bootBuiltins "int" = some (.type "int") := by decide +kernel
/-- names(bag, n): n names at a new list that stands for good -/
def spNames (K : PySem.W.Frag) : Sp := fun vs H Q _ => ∃ (b : Addr) (n : Nat) (G : Hp), vs = [.ref b, .int n] ∧ Bs b G H ∧ 0 < n ∧ n < 4 ∧ GoB b G H (fun G' H' v => ∃ p xs, v = .ref p ∧ G' p = some (.lst (xs.map V.str)) ∧ Nms n xs) Q
section
variable {P : Program} {w : World} {K : PySem.W.Frag} {mg : Str → Option Value} {base : Heap}
abbrev s_Lnames : Stmt := topS 31
abbrev N_Lnames : List Str := ["_law_bag_here", "_law_size", "_law_way", "_law_at", "_law_menu", "_law_stem", "_law_k"]
theorem sc_Lnames : FnScope N_Lnames ["_law_bag_here", "_law_size"] (defScope s_Lnames) := ⟨rfl, rfl, rfl, by decide +kernel, rfl, by decide +kernel, by decide +kernel⟩
theorem ok_Lnames {f : Addr} {fd : FuncData} (F : Fun K "_law_names" "_law_names" s_Lnames f fd) (T : Bi mg) (TK : CTake P w K mg base) : FnOk P w K mg base CX0 2 f fd ["_law_bag_here", "_law_size"] (spNames K) := by
  refine F.ok sc_Lnames (fun vs H Q E h => ?_) (fun cdv A outer s H vs Q E hr h => ?_)
  · obtain ⟨b, n, G, rfl, _⟩ := h
    rfl
  · obtain ⟨b, n, G, rfl, B, n0, n4, k⟩ := h
    refine ⟨_, (pss_cons (ps_asg (pe_tup (pa_cons (pe_cal TK hr pass0 (pa_cons (pv 0) (pa_cons pe_int pa_nil))) (pa_cons (pe_cal TK hr pass0 (pa_cons (pv 0) (pa_cons pe_int pa_nil))) pa_nil))) (pg_tup rfl (pgs_cons (pg_name (i := 2) sc_Lnames.nd rfl (.inl rfl)) (pgs_cons (pg_name (i := 3) sc_Lnames.nd rfl (.inr rfl)) pgs_nil))))
    (pss_cons (ps_if (pt_cmpR op_eq (pv 2) pe_int (nomark _))
      (pss_cons (ps_set (i := 4) sc_Lnames.nd rfl (.inr rfl) (pe_split pe_str pe_str))
      (pss_one (ps_ret (pe_lc (own := [("_law_k", 6)]) (by rfl) sc_Lnames.nd (pi_range1 (by rfl) T.b_range (pa_cons (pv 1) pa_nil)) (blkOk_by (N := N_Lnames) (sc := defScope s_Lnames) (by decide +kernel)) (fun _ _ _ _ _ => (pg_name (i := 6) sc_Lnames.nd rfl (.inl rfl))) (fun _ _ _ _ _ => pts_nil) (fun _ _ _ _ _ => (pe_ix (ixl_k (K := K)) (pe_op op_cat (pv 4) (pv 4)) (pe_op op_add (pv 3) (pv 6)) (fun _ _ => rfl)))))))
      pss_nil)
    (pss_cons (ps_if (pt_cmpR op_eq (pv 2) pe_int (nomark _))
      (pss_one (ps_ret (pe_lc (own := [("_law_k", 6)]) (by rfl) sc_Lnames.nd (pi_range1 (by rfl) T.b_range (pa_cons (pv 1) pa_nil)) (blkOk_by (N := N_Lnames) (sc := defScope s_Lnames) (by decide +kernel)) (fun _ _ _ _ _ => (pg_name (i := 6) sc_Lnames.nd rfl (.inl rfl))) (fun _ _ _ _ _ => pts_nil) (fun _ _ _ _ _ => (pe_slice sl_str pe_str po_none (po_some (pe_op op_add (pv 6) pe_int)))))))
      pss_nil)
    (pss_cons (ps_set (i := 5) sc_Lnames.nd rfl (.inr rfl) (pe_ix ix_list (pe_lst (pa_cons pe_str (pa_cons pe_str pa_nil))) (pe_op op_sub (pv 2) pe_int) (fun _ _ => rfl)))
    (pss_one (ps_ret (pe_lc (own := [("_law_k", 6)]) (by rfl) sc_Lnames.nd (pi_range1 (by rfl) T.b_range (pa_cons (pv 1) pa_nil)) (blkOk_by (N := N_Lnames) (sc := defScope s_Lnames) (by decide +kernel)) (fun _ _ _ _ _ => (pg_name (i := 6) sc_Lnames.nd rfl (.inl rfl))) (fun _ _ _ _ _ => pts_nil) (fun _ _ _ _ _ => (pe_op op_add_str (pv 5) (pe_ix ix_str pe_str (pe_op op_mod (pe_callTy call_int1 (by rfl) T.b_int bt_int (pa_cons (pe_op op_add (pv 3) (pe_op op_mul pe_int (pv 6))) pa_nil)) pe_int) (fun _ _ => rfl))))))))))), ?_⟩
    refine ⟨_, rfl, b, 4, G, rfl, B, by decide, by decide, fun way o1 w0 w1 B1 => ?_⟩
    have g1 : Gr (· = b) G H G (upd H b o1) := take_gr B
    generalize upd H b o1 = H1 at B1 g1
    refine ⟨_, rfl, b, 18, G, rfl, B1, by decide, by decide, fun at_ o2 a0 a1 B2 => ⟨(by show 2 ≤ sizeLine; decide), fun t nt => ?_⟩⟩
    have g2 : Gr (· = b) G H G (upd H1 b o2) := g1.chg B.gb (.inl rfl)
    generalize upd H1 b o2 = H2 at B2 g2 nt
    have g3 := g2.more (same_new (o := .tup [.int way, .int at_]) nt)
    have bag3 := B2.bag.new (o := .tup [.int way, .int at_]) nt
    have kt : upd H2 t (.tup [.int way, .int at_]) t = some (.tup [.int way, .int at_]) := upd_same
    refine ⟨t, _, rfl, SqT.of kt, rfl, _, _, rfl, _, _, rfl, rfl, ?_⟩
    generalize upd H2 t (.tup [.int way, .int at_]) = H3 at g3 bag3
    have sl : 1000 ≤ sizeLine := by decide
    obtain ⟨wy, rfl⟩ : ∃ m : Nat, way = m := ⟨way.toNat, by omega⟩
    obtain ⟨at_, rfl⟩ : ∃ m : Nat, at_ = m := ⟨at_.toNat, by omega⟩
    have wlt : wy < 4 := by omega
    have alt : at_ < 18 := by omega
    have fin : ∀ {f : Nat → Str} {H' : Hp} {D : Addr}, goodN (upTo n f) = true → Same H3 H' → H3 D = none → H' D = some (.lst ((upTo n f).map V.str)) → Q (.ref D) H' := fun {f H' D} gd e nD hD => by
      have nDH := g3.freeB bag3 nD
      refine k (upd G D (.lst ((upTo n f).map V.str))) H' _ ((g3.more e).freeze nDH hD) (bag3.sameH e (same_new (none_of B.fz nDH))) ⟨D, _, rfl, upd_same, nms_of gd⟩
    clear kt nt
    refine ⟨_, rfl, rfl, _, rfl, ite2 (fun c => ?_) fun c => ?_⟩
    · refine ⟨⟨_, rfl⟩, menuText, " ", rfl, rfl, by decide +kernel, by decide +kernel, fun pm npm => ?_⟩
      rw [menu_split]
      have e4 := same_new (o := .lst (menuZ.map V.str)) npm
      have km : upd H3 pm (.lst (menuZ.map V.str)) pm = some (.lst (menuZ.map V.str)) := upd_same
      generalize upd H3 pm (.lst (menuZ.map V.str)) = H4 at e4 km
      refine ⟨_, rfl, n, rfl, by omega, by omega, fun D nD => ?_⟩
      have nD3 := e4.free nD
      refine lc_range (lo := 0) (n := n) (fun i H' => Same H3 H' ∧ H' pm = some (.lst (menuZ.map V.str)) ∧ H' D = some (.lst ((upTo i (nm0 at_)).map V.str))) ⟨same_chg e4 nD3, (same_new nD) _ _ km, upd_same⟩ ?_ ?_
      · rintro i H' hi ⟨e5, k5, d5⟩
        refine ⟨rfl, _, rfl, _, rfl, pm, pm, _, _, rfl, rfl, k5, k5, by show 36 ≤ sizeLine; decide, fun p np => ?_⟩
        have e6 := same_new (o := .lst (menuZ.map V.str ++ menuZ.map V.str)) np
        have ml : (menuZ ++ menuZ).length = 36 := rfl
        have at1 : (menuZ.map V.str ++ menuZ.map V.str)[at_ + i]? = some (V.str (nm0 at_ i)) := by
          rw [← List.map_append, List.getElem?_map]
          unfold nm0
          rw [getD_at (d := Str.empty) (by rw [ml]; omega)]; rfl
        refine ⟨_, rfl, _, rfl, _, _, rfl, rfl, p, _, _, .str (nm0 at_ i), rfl, rfl, SqL.of upd_same, at_of (show (at_ : Int) + (0 + (i : Int)) = ((at_ + i : Nat) : Int) by omega) at1, ?_⟩
        refine ⟨_, e6 _ _ d5, by rw [List.length_map, upTo_length]; omega, same_chg (e5.trans e6) nD3, ?_, ?_⟩
        · rw [upd_ne (ne_of_none km nD)]; exact e6 _ _ k5
        · rw [upd_same, upTo_succ, List.map_append]; rfl
      · rintro H' ⟨e5, _, d5⟩
        exact fin (good0 at_ alt n (by omega)) e5 nD3 d5
    · refine ⟨_, rfl, rfl, _, rfl, ite2 (fun c2 => ?_) fun c2 => ?_⟩
      · refine ⟨_, rfl, n, rfl, by omega, by omega, fun D nD => ?_⟩
        refine lc_range (lo := 0) (n := n) (fun i H' => Same H3 H' ∧ H' D = some (.lst ((upTo i nm1).map V.str))) ⟨same_new nD, upd_same⟩ ?_ ?_
        · rintro i H' hi ⟨e5, d5⟩
          refine ⟨rfl, _, rfl, _, _, rfl, rfl, _, rfl, _, rfl, by decide +kernel, _, d5, by rw [List.length_map, upTo_length]; omega, same_chg e5 nD, ?_⟩
          rw [upd_same, upTo_succ, List.map_append, show (0 + (i : Int)) + 1 = (i : Int) + 1 by omega]; rfl
        · rintro H' ⟨e5, d5⟩
          exact fin (good1 n (by omega)) e5 nD d5
      · have w23 : wy = 2 ∨ wy = 3 := by
          have h0 : wy ≠ 0 := fun z => c (by rw [z]; rfl)
          have h1 : wy ≠ 1 := fun z => c2 (by rw [z]; rfl)
          omega
        obtain ⟨st, hst, gd⟩ : ∃ st : Str, atI [V.str "", V.str "zzzzzzz"] ((wy : Int) - 2) = some (.str st) ∧ ((∀ n < 4, goodN (upTo n (nm2 st at_)) = true) ∧ st.length ≤ 7) := by
          rcases w23 with rfl | rfl
          · exact ⟨"", rfl, fun n hn => good2 at_ alt n hn, by decide +kernel⟩
          · exact ⟨"zzzzzzz", rfl, fun n hn => good3 at_ alt n hn, by decide +kernel⟩
        refine ⟨(by show 2 ≤ sizeLine; decide), fun ps nps => ?_⟩
        have e4 := same_new (o := .lst [V.str "", V.str "zzzzzzz"]) nps
        have ks : upd H3 ps (.lst [V.str "", V.str "zzzzzzz"]) ps = some (.lst [V.str "", V.str "zzzzzzz"]) := upd_same
        refine ⟨_, rfl, _, _, rfl, rfl, ps, _, _, .str st, rfl, rfl, SqL.of ks, hst, ?_⟩
        generalize upd H3 ps (.lst [V.str "", V.str "zzzzzzz"]) = H4 at e4
        refine ⟨_, rfl, n, rfl, by omega, by omega, fun D nD => ?_⟩
        have nD3 := e4.free nD
        refine lc_range (lo := 0) (n := n) (fun i H' => Same H3 H' ∧ H' D = some (.lst ((upTo i (nm2 st at_)).map V.str))) ⟨same_chg e4 nD3, upd_same⟩ ?_ ?_
        · rintro i H' hi ⟨e5, d5⟩
          have m := mod_in ((at_ : Int) + 5 * (0 + (i : Int))) 26 (by decide)
          have lf : lettersZ.cps.toList.length = 26 := by decide +kernel
          have hgl : lettersZ.cps.toList[(at_ + 5 * i) % 26]? = some (letter at_ i) := getD_at (by rw [lf]; omega)
          have em : ((at_ : Int) + 5 * (0 + (i : Int))) % 26 = (((at_ + 5 * i) % 26 : Nat) : Int) := by omega
          have hat : atI lettersZ.cps.toList (((at_ : Int) + 5 * (0 + (i : Int))) % 26) = some (letter at_ i) := atI_any em hgl
          refine ⟨rfl, _, rfl, _, rfl, _, rfl, _, _, rfl, rfl, .inl ⟨by omega, by omega⟩, _, _, rfl, rfl, .inl ⟨_, rfl, _, _, rfl, rfl, (by show (0 : Int) < _; decide), ?_⟩⟩
          refine ⟨lettersZ, _, letter at_ i, rfl, rfl, by decide +kernel, hat, _, _, rfl, rfl, ?_, ?_⟩
          · have l1 : Str.length ⟨#[letter at_ i]⟩ = 1 := rfl
            rw [l1]
            have := gd.2
            omega
          · refine ⟨_, d5, by rw [List.length_map, upTo_length]; omega, same_chg e5 nD3, ?_⟩
            rw [upd_same, upTo_succ, List.map_append]; rfl
        · rintro H' ⟨e5, d5⟩
          exact fin (gd.1 n (by omega)) e5 nD3 d5
end
end Kp

set_option Elab.async false
set_option linter.all false
set_option maxRecDepth 100000
namespace Kp
open PySem PySem.Spec PyProof.Rows L2 SlX
/-- rules(bag, inputs, n, outs) -/
def spRules (K : PySem.W.Frag) : Sp := fun vs H Q _ => ∃ (b ai ao : Addr) (n : Nat) (G : Hp) (ins outs : List Str), vs = [.ref b, .ref ai, .int n, .ref ao] ∧ Bs b G H ∧ G ai = some (.lst (ins.map V.str)) ∧ OkIns ins ∧ 0 < n ∧ n < 64 ∧ G ao = some (.lst (outs.map V.str)) ∧ outs ≠ [] ∧ outs.length < 64 ∧ (∀ o ∈ outs, isName o = true) ∧
  GoB b G H (fun G' _ v => ∃ rs, DD K G' v (rulesD rs) ∧ OkRules ins rs ∧ rs.length = n) Q
section
variable {P : Program} {w : World} {K : PySem.W.Frag} {mg : Str → Option Value} {base : Heap}
abbrev COne (P : Program) (w : World) (K : PySem.W.Frag) (mg : Str → Option Value) (base : Heap) : Prop := Cal P w K mg base CX0 2 "_law_one" ["_law_bag_here", "_law_some"] (spOne K)
abbrev CMixed (P : Program) (w : World) (K : PySem.W.Frag) (mg : Str → Option Value) (base : Heap) : Prop := Cal P w K mg base CX0 2 "_law_mixed" ["_law_bag_here", "_law_items"] (spMixed K)
abbrev s_Lrules : Stmt := topS 32
abbrev N_Lrules : List Str := ["_law_bag_here", "_law_inputs", "_law_size", "_law_outs", "_law_found", "_law_state", "_law_row", "_law_word"]
theorem sc_Lrules : FnScope N_Lrules ["_law_bag_here", "_law_inputs", "_law_size", "_law_outs"] (defScope s_Lrules) := ⟨rfl, rfl, rfl, by decide +kernel, rfl, by decide +kernel, by decide +kernel⟩
theorem perm_strs {ys : List V} {xs : List Str} (p : ys.Perm (xs.map V.str)) : ∃ zs : List Str, ys = zs.map V.str ∧ zs.Perm xs := by
  let f : V → Str := fun v => match v with | .str x => x | _ => Str.empty
  refine ⟨ys.map f, ?_, ?_⟩
  · rw [List.map_map]
    conv => lhs; rw [← List.map_id ys]
    refine List.map_congr_left fun v hv => ?_
    obtain ⟨x, _, rfl⟩ := List.mem_map.mp (p.mem_iff.mp hv)
    rfl
  · have := p.map f
    rw [List.map_map] at this
    exact (show ((xs.map (f ∘ V.str)) = xs) from List.map_id' xs) ▸ this
theorem nodup_snoc {zs : List Str} {j : Nat} {k : Str} (nd : zs.Nodup) (h : zs[j]? = some k) : k ∉ zs.take j := by
  intro m
  rw [← List.take_append_drop j zs, List.nodup_append] at nd
  have e3 : (zs.drop j)[0]? = some k := by rw [List.getElem?_drop]; exact h
  exact nd.2.2 k m k (List.mem_of_getElem? e3) rfl
theorem ok_Lrules {f : Addr} {fd : FuncData} (F : Fun K "_law_rules" "_law_rules" s_Lrules f fd) (T : Bi mg) (TK : CTake P w K mg base) (CO : COne P w K mg base) (CM : CMixed P w K mg base) : FnOk P w K mg base CX0 3 f fd ["_law_bag_here", "_law_inputs", "_law_size", "_law_outs"] (spRules K) := by
  refine F.ok sc_Lrules (fun vs H Q E h => ?_) (fun cdv A outer s H vs Q E hr h => ?_)
  · obtain ⟨b, ai, ao, n, G, ins, outs, rfl, _⟩ := h
    rfl
  · obtain ⟨b, ai, ao, n, G, ins, outs, rfl, B, hai, oi, n0, n64, hao, one, o64, onm, k⟩ := h
    refine ⟨_, (pss_cons (ps_set (i := 4) sc_Lrules.nd rfl (.inl rfl) (pe_lst pa_nil))
    (pss_cons (ps_for PassesOwn.never rfl (pi_range1 (by rfl) T.b_range (pa_cons (pv 2) pa_nil)) (pg_name (i := 5) sc_Lrules.nd rfl (.inl rfl))
      (pss_cons (ps_set (i := 6) sc_Lrules.nd rfl (.inl rfl) pe_dnewK)
      (pss_cons (ps_for PassesOwn.never rfl (pi_list (pe_cal CM hr pass0 (pa_cons (pv 0) (pa_cons (pv 1) pa_nil)))) (pg_name (i := 7) sc_Lrules.nd rfl (.inl rfl))
        (pss_one (ps_dput (hu_of hr) (pv 6) (pv 7) (pe_tup (pa_cons (pe_cal TK (hr.mono (by decide)) pass0 (pa_cons (pv 0) (pa_cons (pv 2) pa_nil))) (pa_cons (pe_cal CO hr pass0 (pa_cons (pv 0) (pa_cons (pv 3) pa_nil))) pa_nil))) rfl)))
      (pss_one (ps_expr (pe_bm PySem.F.plainAttrs_list PySem.F.slot_list_append PySem.F.type_list_append mt_append (pv 4) (pa_cons (pv 6) pa_nil)))))))
    (pss_one (ps_ret (pv 4))))), ?_⟩
    have sl : 1000 ≤ sizeLine := by decide
    refine ⟨(by show 0 ≤ sizeLine; decide), fun pf npf => ?_⟩
    have bpf : b ≠ pf := fun e => B.bag.some (by rw [e]; exact npf)
    refine ⟨_, rfl, n, rfl, by omega, by omega, ?_⟩
    refine for_range (lo := 0) (n := n) (fun i σ' H' => ∃ (G' : Hp) (rs : List Row) (vs : List V) (c5 c6 c7 : Option V), σ' = [some (.ref b), some (.ref ai), some (.int n), some (.ref ao), some (.ref pf), c5, c6, c7] ∧ Gr (· = b) G H G' H' ∧ BagAt G' H' b ∧ G' pf = none ∧ H' pf = some (.lst vs) ∧ DDs K G' vs (rs.map rowD) ∧ rs.length = i ∧ ∀ r ∈ rs, OkRow ins n r)
      ⟨G, [], [], none, none, none, rfl, Gr.own B.fz npf, B.bag.new npf, none_of B.fz npf, upd_same, .nil, rfl, fun r hr => (by cases hr)⟩ ?_ ?_
    · rintro i σ' H' hi ⟨G', rs, vs, c5, c6, c7, rfl, g, bg, gpf, hpf, dv, rl, ok⟩
      intro d nd
      have nd0 := g.freeB bg nd
      have pfd : pf ≠ d := fun z => by rw [← z, hpf] at nd; cases nd
      have g1 := g.chg (o := .dK []) (none_of g.fz nd) (.inr nd0)
      have bg1 := bg.new (o := .dK []) nd
      have gb := g.new b B.bag.some
      rw [B.gb] at gb
      have gd := none_of g.fz nd
      refine ⟨_, rfl, _, rfl, b, ai, G', ins.map V.str, rfl, ⟨g1.fz, bg1, gb⟩, SqL.of (g.sub _ _ hai), by rw [List.length_map]; have := oi.few; omega, ?_⟩
      rintro G1 H1 v1 gg1 bag1 ⟨p, ys, rfl, pm, npp, eG, hp⟩
      subst eG
      obtain ⟨zs, rfl, pz⟩ := perm_strs pm
      have g2 := Gr.transB B g1 bg1 gg1
      have zn := pz.nodup_iff.mpr oi.nd
      have zl := pz.length_eq
      have il := oi.few
      have gp := none_of g1.fz npp
      have np0 := g.freeB bg (Same.free (same_new nd) npp)
      have pp1 : pf ≠ p := fun z => by rw [← z, upd_ne pfd, hpf] at npp; cases npp
      have dp1 : d ≠ p := fun z => by rw [← z, upd_same] at npp; cases npp
      have pb : b ≠ p := fun z => by rw [← z] at npp; exact bg1.some npp
      have db : b ≠ d := fun z => by rw [← z] at nd; exact bg.some nd
      have hpf1 : H1 pf = some (.lst vs) := gg1.old _ _ (fun z => bpf z.symm) (by rw [upd_ne pfd]; exact hpf)
      have hd1 : H1 d = some (.dK []) := gg1.old _ _ (fun z => db z.symm) upd_same
      refine ⟨p, rfl, ⟨_, SqL.of hp⟩, ?_⟩
      refine for_list (xs := zs.map V.str) (fun j σ' H' => ∃ (G2 : Hp) (kvs : List (L2.Key × V)) (row : Row) (c7 : Option V), σ' = [some (.ref b), some (.ref ai), some (.int n), some (.ref ao), some (.ref pf), some (.int (0 + (i : Int))), some (.ref d), c7] ∧ Gr (· = b) G H G2 H' ∧ Same G1 G2 ∧ BagAt G2 H' b ∧ G2 pf = none ∧ G2 d = none ∧ G2 p = none ∧ H' pf = some (.lst vs) ∧ H' p = some (.lst (zs.map V.str)) ∧ H' d = some (.dK kvs) ∧ row.map (·.1) = zs.take j ∧ kvs.map (·.1) = row.map (fun q => (Sum.inr q.1 : L2.Key)) ∧ DDs K G2 (kvs.map (·.2)) (row.map fun q => stD q.2) ∧ ∀ q ∈ row, 0 ≤ q.2.1 ∧ q.2.1 < n ∧ isName q.2.2 = true)
        ⟨G1, [], [], c7, rfl, g2, Same.refl _, bag1, gpf, gd, gp, hpf1, hp, hd1, rfl, rfl, .nil, fun q hq => (by cases hq)⟩ ?_ ?_ ?_
      · rintro j σ' H' _ ⟨G2, kvs, row, c7, _, _, _, _, _, _, _, _, h, _⟩
        exact SqL.of h
      · rintro j x σ' H' hx ⟨G2, kvs, row, c7, rfl, g3, sG, bg3, gpf3, gd3, gp3, hpf3, hp3, hd3, rk, kk, dk, okq⟩
        obtain ⟨wd, hw, rfl⟩ := at_map hx
        have jl := (List.getElem?_eq_some_iff.mp hw).1
        have gb3 : G2 b = none := by rw [g3.new b B.bag.some]; exact B.gb
        have B3 : Bs b G2 H' := ⟨g3.fz, bg3, gb3⟩
        refine ⟨_, rfl, _, rfl, b, n, G2, rfl, B3, by omega, by omega, fun st o1 s0 s1 B4 => ?_⟩
        have g4 := g3.chg (o := o1) gb3 (.inl rfl)
        have keep4 : ∀ {c : Addr} {o : HO}, b ≠ c → H' c = some o → upd H' b o1 c = some o := fun {c o} z e => by rw [upd_ne z.symm]; exact e
        have hpf4 := keep4 bpf hpf3
        have hp4 := keep4 pb hp3
        have hd4 := keep4 db hd3
        generalize upd H' b o1 = H4 at B4 g4 hpf4 hp4 hd4
        have aob : ao ≠ b := fun z => by
          have := g3.sub _ _ hao
          rw [z, gb3] at this; cases this
        refine ⟨_, rfl, _, rfl, b, ao, G2, outs.map V.str, rfl, B4, SqL.of (g4.fz _ _ (g3.sub _ _ hao)), aob, ?_, by rw [List.length_map]; omega, fun oi' ov o2 hov B5 => ?_⟩
        · rw [List.length_map]
          exact List.length_pos_iff.mpr one
        obtain ⟨ot, hot, rfl⟩ := at_map hov
        have g5 := g4.chg (o := o2) gb3 (.inl rfl)
        have keep5 : ∀ {c : Addr} {o : HO}, b ≠ c → H4 c = some o → upd H4 b o2 c = some o := fun {c o} z e => by rw [upd_ne z.symm]; exact e
        have hpf5 := keep5 bpf hpf4
        have hp5 := keep5 pb hp4
        have hd5 := keep5 db hd4
        generalize upd H4 b o2 = H5 at B5 g5 hpf5 hp5 hd5
        refine ⟨(by show 2 ≤ sizeLine; decide), fun t nt => ?_⟩
        have nt0 := g5.freeB B5.bag nt
        have gt := none_of g5.fz nt
        have g6 := g5.add (o := .tup [.int st, .str ot]) nt0 nt
        have dt : d ≠ t := ne_of_none hd5 nt
        have pt : p ≠ t := ne_of_none hp5 nt
        have pft : pf ≠ t := ne_of_none hpf5 nt
        have bt : b ≠ t := fun z => by rw [← z] at nt; exact B5.bag.some nt
        have hd6 : upd H5 t (.tup [.int st, .str ot]) d = some (.dK kvs) := by rw [upd_ne dt]; exact hd5
        have kt6 : upd G2 t (.tup [.int st, .str ot]) t = some (.tup [.int st, .str ot]) := upd_same
        have sG6 := same_new (o := .tup [.int st, .str ot]) gt
        have klen : kvs.length = j := by
          have z1 := congrArg List.length kk
          have z2 := congrArg List.length rk
          simp at z1 z2
          omega
        refine ⟨_, rfl, _, rfl, d, _, rfl, DPut.k (k := Sum.inr wd) hd6 (by omega), ?_⟩
        have fresh : (Sum.inr wd : L2.Key) ∉ kvs.map (·.1) := by
          rw [kk]
          intro m
          obtain ⟨q, hq, e⟩ := List.mem_map.mp m
          have e2 : q.1 = wd := Sum.inr.inj e
          have : wd ∈ row.map (·.1) := List.mem_map.mpr ⟨q, hq, e2⟩
          rw [rk] at this
          exact nodup_snoc zn hw this
        rw [putK_new fresh]
        have g7 := g6.chg (o := .dK (kvs ++ [(Sum.inr wd, .ref t)])) (by rw [upd_ne dt]; exact gd3) (.inr nd0)
        refine ⟨_, _, row ++ [(wd, (st, ot))], _, rfl, g7, sG.trans sG6, ?_, by rw [upd_ne pft]; exact gpf3, by rw [upd_ne dt]; exact gd3, by rw [upd_ne pt]; exact gp3, by rw [upd_ne pfd, upd_ne pft]; exact hpf5, by rw [upd_ne dp1.symm, upd_ne pt]; exact hp5, upd_same, ?_, ?_, ?_, ?_⟩
        · refine B5.bag.up sG6 ?_
          rw [upd_ne db, upd_ne bt]
        · rw [List.map_append, rk, List.take_succ, hw]; rfl
        · rw [List.map_append, kk, List.map_append]; rfl
        · rw [List.map_append, List.map_append]
          exact (dk.up sG6).append (.one (DD.step (p := (st, ot)) (SqT.of kt6)))
        · intro q hq
          rcases List.mem_append.mp hq with h | h
          · exact okq q h
          · rw [List.mem_singleton.mp h]
            exact ⟨s0, s1, onm ot (List.mem_of_getElem? hot)⟩
      · rintro σ' H' ⟨G2, kvs, row, c7, rfl, g3, sG, bg3, gpf3, gd3, gp3, hpf3, hp3, hd3, rk, kk, dk, okq⟩
        rw [List.length_map, List.take_length] at rk
        have vl := dv.length
        rw [List.length_map] at vl
        refine ⟨_, rfl, .inl ⟨rfl, _, SqL.of hpf3⟩, _, rfl, pf, vs, _, rfl, rfl, hpf3, by omega, ?_⟩
        have g4 := g3.freeze (o := .dK kvs) nd0 hd3
        have sG4 := same_new (o := .dK kvs) gd3
        refine ⟨_, rs ++ [row], vs ++ [.ref d], _, _, _, rfl, g4.chg (o := .lst (vs ++ [.ref d])) (by rw [upd_ne pfd]; exact gpf3) (.inr npf), ?_, by rw [upd_ne pfd]; exact gpf3, upd_same, ?_, by simp [rl], ?_⟩
        · refine bg3.up sG4 ?_
          rw [upd_ne bpf]
        · rw [List.map_append]
          refine (dv.up (sG.trans sG4)).append (.one (.dic upd_same ?_ ?_))
          · have z := congrArg (List.map keyD) kk
            rw [List.map_map, List.map_map] at z
            rw [List.map_map]
            exact z.symm
          · rw [List.map_map]
            exact dk.up sG4
        · intro r hr'
          rcases List.mem_append.mp hr' with h | h
          · exact ok r h
          · rw [List.mem_singleton.mp h]
            exact ⟨by rw [rk]; exact pz, okq⟩
    · rintro σ' H' ⟨G', rs, vs, c5, c6, c7, rfl, g, bg, gpf, hpf, dv, rl, ok⟩
      have g2 := g.freeze (o := .lst vs) npf hpf
      refine ⟨_, rfl, k _ _ _ g2 (bg.up (same_new gpf) rfl) ⟨rs, .lst (SqL.of upd_same) (dv.up (same_new gpf)), ⟨fun e => ?_, by omega, fun r hr' => by rw [rl]; exact ok r hr'⟩, rl⟩⟩
      rw [e] at rl
      simp at rl
      omega
end
end Kp

set_option Elab.async false
set_option linter.all false
set_option maxRecDepth 100000
namespace Kp
open PySem PySem.Spec PyProof.Rows L2
/-! ### all that is new stands for good from now on -/
def mix (H G1 H1 : Hp) : Hp := fun a => match H a with | none => H1 a | some _ => G1 a
section
variable {W : Addr → Prop} {G H G1 H1 : Hp} {p : Addr}
theorem mix_new (n : H p = none) : mix H G1 H1 p = H1 p := by unfold mix; rw [n]
theorem mix_old {o : HO} (e : H p = some o) : mix H G1 H1 p = G1 p := by unfold mix; rw [e]
theorem mix_up (f : Same G1 H1) : Same G1 (mix H G1 H1) := fun a o e => by
  cases z : H a with
  | none => rw [mix_new z]; exact f a o e
  | some u => rw [mix_old z]; exact e
theorem Gr.all (g : Gr W G H G1 H1) : Gr W G H (mix H G1 H1) H1 where
  sub := g.sub.trans (mix_up g.fz)
  fz := fun a o e => by
    cases z : H a with
    | none => rw [mix_new z] at e; exact e
    | some u => rw [mix_old z] at e; exact g.fz a o e
  old := g.old
  new := fun a h => by
    cases z : H a with
    | none => exact absurd z h
    | some u => rw [mix_old z]; exact g.new a h
end
/-! ### rows that may still be changed -/
/-- these entries are this row -/
def KvR (K : PySem.W.Frag) (G : Hp) (kvs : List (L2.Key × V)) (r : Row) : Prop := kvs.map (·.1) = r.map (fun q => (Sum.inr q.1 : L2.Key)) ∧ DDs K G (kvs.map (·.2)) (r.map fun q => stD q.2)
theorem KvR.up {K : PySem.W.Frag} {G G' : Hp} {kvs : List (L2.Key × V)} {r : Row} (h : KvR K G kvs r) (e : Same G G') : KvR K G' kvs r := ⟨h.1, h.2.up e⟩
theorem KvR.dd {K : PySem.W.Frag} {G : Hp} {d : Addr} {kvs : List (L2.Key × V)} {r : Row} (h : KvR K G kvs r) (e : G d = some (.dK kvs)) : DD K G (.ref d) (rowD r) := by
  refine .dic e ?_ ?_
  · have z := congrArg (List.map keyD) h.1
    rw [List.map_map, List.map_map] at z
    rw [List.map_map]
    exact z.symm
  · rw [List.map_map]
    exact h.2
theorem kvr_of {K : PySem.W.Frag} {G : Hp} {v : V} {r : Row} (h : DD K G v (rowD r)) (ne : r ≠ []) : ∃ d kvs, v = .ref d ∧ G d = some (.dK kvs) ∧ KvR K G kvs r := by
  obtain ⟨d, kvs, e, h1, h2, h3⟩ := row_inv h ne
  exact ⟨d, kvs, e, h1, h2, h3⟩
/-- a step of the row exchanged -/
def setR (r : Row) (k : Str) (st : Int × Str) : Row := r.map fun q => if q.1 = k then (q.1, st) else q
theorem setR_keys (r : Row) (k : Str) (st : Int × Str) : (setR r k st).map (·.1) = r.map (·.1) := by
  unfold setR
  rw [List.map_map]
  refine List.map_congr_left fun q _ => ?_
  show (if q.1 = k then (q.1, st) else q).1 = q.1
  by_cases h : q.1 = k
  · rw [if_pos h]
  · rw [if_neg h]
theorem KvR.put {K : PySem.W.Frag} {G : Hp} {kvs : List (L2.Key × V)} {r : Row} {k : Str} {v : V} {st : Int × Str} (h : KvR K G kvs r) (hk : k ∈ r.map (·.1)) (hv : DD K G v (stD st)) : KvR K G (putK kvs (Sum.inr k) v) (setR r k st) := by
  have any : (kvs.any fun kv => decide (kv.1 = Sum.inr k)) = true := by
    rw [List.any_eq_true]
    obtain ⟨q, hq, rfl⟩ := List.mem_map.mp hk
    have : (Sum.inr q.1 : L2.Key) ∈ kvs.map (·.1) := by rw [h.1]; exact List.mem_map.mpr ⟨q, hq, rfl⟩
    obtain ⟨kv, h1, h2⟩ := List.mem_map.mp this
    exact ⟨kv, h1, decide_eq_true h2⟩
  unfold putK
  rw [if_pos any]
  clear any hk
  obtain ⟨h1, h2⟩ := h
  induction kvs generalizing r with
  | nil =>
    cases r with
    | nil => exact ⟨rfl, .nil⟩
    | cons _ _ => cases h1
  | cons kv kvs ih =>
    cases r with
    | nil => cases h1
    | cons q r =>
      have e := List.cons.inj h1
      cases h2 with
      | cons d1 d2 =>
        obtain ⟨i1, i2⟩ := ih e.2 d2
        have e1 : kv.1 = Sum.inr q.1 := e.1
        by_cases c : q.1 = k
        · have c1 : kv.1 = Sum.inr k := by rw [e1, c]
          have hd : setR (q :: r) k st = (q.1, st) :: setR r k st := by unfold setR; rw [List.map_cons, if_pos c]
          rw [hd, List.map_cons, if_pos c1]
          refine ⟨?_, .cons hv i2⟩
          rw [List.map_cons, List.map_cons, i1]
          exact congrArg (· :: _) (by first | exact e1 | (rw [c]; exact c1) | rw [c])
        · have c1 : ¬ kv.1 = Sum.inr k := by
            rw [e1]
            exact fun z => c (Sum.inr.inj z)
          have hd : setR (q :: r) k st = q :: setR r k st := by unfold setR; rw [List.map_cons, if_neg c]
          rw [hd, List.map_cons, if_neg c1]
          refine ⟨?_, .cons d1 i2⟩
          rw [List.map_cons, List.map_cons, i1, e1]
theorem OkRow.set {ins : List Str} {n : Nat} {r : Row} {k : Str} {st : Int × Str} (h : OkRow ins n r) (s0 : 0 ≤ st.1) (s1 : st.1 < n) (s2 : isName st.2 = true) : OkRow ins n (setR r k st) := by
  refine ⟨by rw [setR_keys]; exact h.keys, fun q hq => ?_⟩
  obtain ⟨q', hq', rfl⟩ := List.mem_map.mp hq
  by_cases c : q'.1 = k
  · rw [if_pos c]; exact ⟨s0, s1, s2⟩
  · rw [if_neg c]; exact h.ok q' hq'
theorem OkRow.wide {ins : List Str} {n m : Nat} {r : Row} (h : OkRow ins n r) (e : n ≤ m) : OkRow ins m r := ⟨h.keys, fun p hp => ⟨(h.ok p hp).1, by have := (h.ok p hp).2.1; omega, (h.ok p hp).2.2⟩⟩
theorem mergeK_new {kvs more : List (L2.Key × V)} (nd : ((kvs ++ more).map (·.1)).Nodup) : mergeK kvs more = kvs ++ more := by
  induction more generalizing kvs with
  | nil => rw [List.append_nil]; rfl
  | cons q more ih =>
    show mergeK (putK kvs q.1 q.2) more = _
    have fresh : q.1 ∉ kvs.map (·.1) := by
      rw [List.map_append, List.nodup_append] at nd
      intro m
      exact nd.2.2 q.1 m q.1 (by simp) rfl
    rw [putK_new fresh, ih (by simpa using nd)]
    simp
/-- rows of one's own: their places, what stands there -/
structure Own (K : PySem.W.Frag) (H0 G H : Hp) (cs : List (Addr × List (L2.Key × V))) (rs : List Row) : Prop where
  len : cs.length = rs.length
  nd : (cs.map (·.1)).Nodup
  at_ : ∀ (i : Nat) (c : Addr × List (L2.Key × V)) (r : Row), cs[i]? = some c → rs[i]? = some r → H c.1 = some (.dK c.2) ∧ G c.1 = none ∧ H0 c.1 = none ∧ KvR K G c.2 r
section
variable {K : PySem.W.Frag} {H0 G H G' H' : Hp} {cs : List (Addr × List (L2.Key × V))} {rs : List Row}
theorem Own.nil : Own K H0 G H [] [] := ⟨rfl, List.nodup_nil, fun i c r h => by simp at h⟩
/-- other things change -/
theorem Own.up (o : Own K H0 G H cs rs) (sG : Same G G') (hH : ∀ c ∈ cs, H' c.1 = H c.1) (hG : ∀ c ∈ cs, G' c.1 = G c.1) : Own K H0 G' H' cs rs := ⟨o.len, o.nd, fun i c r h1 h2 => by
  obtain ⟨a, b, c', d⟩ := o.at_ i c r h1 h2
  have m := List.mem_of_getElem? h1
  exact ⟨by rw [hH c m]; exact a, by rw [hG c m]; exact b, c', d.up sG⟩⟩
theorem Own.mem (o : Own K H0 G H cs rs) {c : Addr × List (L2.Key × V)} (h : c ∈ cs) : H c.1 = some (.dK c.2) ∧ G c.1 = none ∧ H0 c.1 = none := by
  obtain ⟨i, e⟩ := List.mem_iff_getElem?.mp h
  have lt := (List.getElem?_eq_some_iff.mp e).1
  have lr : i < rs.length := by rw [← o.len]; exact lt
  obtain ⟨a, b, d, _⟩ := o.at_ i c _ e (List.getElem?_eq_getElem lr)
  exact ⟨a, b, d⟩
theorem Own.row (o : Own K H0 G H cs rs) {i : Nat} (h : i < rs.length) : ∃ d kvs r, cs[i]? = some (d, kvs) ∧ rs[i]? = some r ∧ H d = some (.dK kvs) ∧ G d = none ∧ H0 d = none ∧ KvR K G kvs r := by
  have lc : i < cs.length := by rw [o.len]; exact h
  obtain ⟨a, b, c, d⟩ := o.at_ i _ _ (List.getElem?_eq_getElem lc) (List.getElem?_eq_getElem h)
  exact ⟨_, _, _, List.getElem?_eq_getElem lc, List.getElem?_eq_getElem h, a, b, c, d⟩
theorem Own.snoc (o : Own K H0 G H cs rs) {d : Addr} {kvs : List (L2.Key × V)} {r : Row} (hd : H d = some (.dK kvs)) (gd : G d = none) (h0 : H0 d = none) (kr : KvR K G kvs r) (new : ∀ c ∈ cs, c.1 ≠ d) : Own K H0 G H (cs ++ [(d, kvs)]) (rs ++ [r]) := by
  refine ⟨by simp [o.len], ?_, fun i c r' a b => ?_⟩
  · rw [List.map_append, List.nodup_append]
    refine ⟨o.nd, by simp, fun x hx y hy => ?_⟩
    obtain ⟨c, hc, rfl⟩ := List.mem_map.mp hx
    simp at hy
    rw [hy]
    exact new c hc
  · rcases Nat.lt_trichotomy i cs.length with z | z | z
    · rw [List.getElem?_append_left z] at a
      rw [List.getElem?_append_left (by rw [← o.len]; exact z)] at b
      exact o.at_ i c r' a b
    · rw [List.getElem?_append_right (by omega)] at a
      rw [List.getElem?_append_right (by rw [← o.len]; omega)] at b
      rw [z, Nat.sub_self] at a
      rw [z, o.len, Nat.sub_self] at b
      cases a
      cases b
      exact ⟨hd, gd, h0, kr⟩
    · have := (List.getElem?_eq_some_iff.mp a).1
      simp at this
      omega
/-- one row is written -/
theorem Own.set (o : Own K H0 G H cs rs) {i : Nat} {d : Addr} {kvs kws : List (L2.Key × V)} {r r' : Row} (hc : cs[i]? = some (d, kvs)) (kr : KvR K G kws r') : Own K H0 G (upd H d (.dK kws)) (cs.set i (d, kws)) (rs.set i r') := by
  have lt := (List.getElem?_eq_some_iff.mp hc).1
  refine ⟨by simp [o.len], ?_, fun j c r2 a b => ?_⟩
  · have e : (cs.set i (d, kws)).map (·.1) = cs.map (·.1) := by
      rw [List.map_set]
      refine List.ext_getElem? fun j => ?_
      rw [List.getElem?_set]
      by_cases q : i = j
      · rw [if_pos q, List.length_map, if_pos (by omega), ← q, List.getElem?_map, hc]; rfl
      · rw [if_neg q]
    rw [e]
    exact o.nd
  · rw [List.getElem?_set] at a b
    by_cases q : i = j
    · rw [if_pos q, if_pos lt] at a
      rw [if_pos q, if_pos (by rw [← o.len]; exact lt)] at b
      cases a
      cases b
      obtain ⟨_, g, h, _⟩ := o.at_ i _ _ hc (List.getElem?_eq_getElem (by rw [← o.len]; exact lt))
      exact ⟨upd_same, g, h, kr⟩
    · rw [if_neg q] at a b
      obtain ⟨h1, h2, h3, h4⟩ := o.at_ j c r2 a b
      refine ⟨?_, h2, h3, h4⟩
      rw [upd_ne fun z => q ?_]
      · exact h1
      · have e1 : (cs.map (·.1))[i]? = some d := by rw [List.getElem?_map, hc]; rfl
        have e2 : (cs.map (·.1))[j]? = some d := by rw [List.getElem?_map, a, ← z]; rfl
        have l1 : i < (cs.map (·.1)).length := by rw [List.length_map]; exact lt
        exact (List.getElem?_inj l1 o.nd).mp (e1.trans e2.symm)
end
end Kp

set_option Elab.async false
set_option linter.all false
set_option maxRecDepth 100000
namespace Kp
open PySem PySem.Spec PyProof.Rows L2
theorem paired_imp {α β : Type} {F F' : α → β → Prop} (i : ∀ a b, F a b → F' a b) : ∀ {l : List α} {m : List β}, Paired F l m → Paired F' l m
  | _, _, .nil => .nil
  | _, _, .cons h t => .cons (i _ _ h) (paired_imp i t)
/-- rules being made: the bag, the list at pf, its rows -/
structure NSt (K : PySem.W.Frag) (b pf : Addr) (G H G' H' : Hp) (cs : List (Addr × List (L2.Key × V))) (rs : List Row) : Prop where
  b0 : Bs b G H
  p0 : H pf = none
  g : Gr (· = b) G H G' H'
  bag : BagAt G' H' b
  gp : G' pf = none
  hp : H' pf = some (.lst (cs.map fun c => V.ref c.1))
  own : Own K H G' H' cs rs
section
variable {K : PySem.W.Frag} {b pf t : Addr} {G H G' H' : Hp} {cs : List (Addr × List (L2.Key × V))} {rs : List Row} {o : HO}
theorem NSt.bs (n : NSt K b pf G H G' H' cs rs) : Bs b G' H' := ⟨n.g.fz, n.bag, by rw [n.g.new b n.b0.bag.some]; exact n.b0.gb⟩
theorem NSt.gb (n : NSt K b pf G H G' H' cs rs) : G' b = none := n.bs.gb
theorem NSt.bpf (n : NSt K b pf G H G' H' cs rs) : pf ≠ b := fun z => n.b0.bag.some (by rw [← z]; exact n.p0)
theorem NSt.draw (n : NSt K b pf G H G' H' cs rs) (B : Bs b G' (upd H' b o)) : NSt K b pf G H G' (upd H' b o) cs rs :=
  ⟨n.b0, n.p0, n.g.chg n.gb (.inl rfl), B.bag, n.gp, by rw [upd_ne n.bpf]; exact n.hp, n.own.up (Same.refl _) (fun c hc => upd_ne fun z => n.b0.bag.some (by rw [← z]; exact (n.own.mem hc).2.2)) fun _ _ => rfl⟩
theorem NSt.add (n : NSt K b pf G H G' H' cs rs) (nt : H' t = none) : NSt K b pf G H (upd G' t o) (upd H' t o) cs rs := by
  have pt : pf ≠ t := ne_of_none n.hp nt
  have ct : ∀ c ∈ cs, c.1 ≠ t := fun c hc => ne_of_none (n.own.mem hc).1 nt
  have bt : b ≠ t := fun z => n.bag.some (by rw [z]; exact nt)
  have sG := same_new (o := o) (none_of n.g.fz nt)
  exact ⟨n.b0, n.p0, n.g.add (n.g.freeB n.bag nt) nt, n.bag.up sG (upd_ne bt), by rw [upd_ne pt]; exact n.gp, by rw [upd_ne pt]; exact n.hp, n.own.up sG (fun c hc => upd_ne (ct c hc)) fun c hc => upd_ne (ct c hc)⟩
theorem NSt.junk (n : NSt K b pf G H G' H' cs rs) (nt : H' t = none) : NSt K b pf G H G' (upd H' t o) cs rs := by
  have pt : pf ≠ t := ne_of_none n.hp nt
  exact ⟨n.b0, n.p0, n.g.more (same_new nt), n.bag.new nt, n.gp, by rw [upd_ne pt]; exact n.hp, n.own.up (Same.refl _) (fun c hc => upd_ne (ne_of_none (n.own.mem hc).1 nt)) fun _ _ => rfl⟩
theorem NSt.put (n : NSt K b pf G H G' H' cs rs) {i : Nat} {d : Addr} {kvs kws : List (L2.Key × V)} {r' : Row} (hc : cs[i]? = some (d, kvs)) (kr : KvR K G' kws r') : NSt K b pf G H G' (upd H' d (.dK kws)) (cs.set i (d, kws)) (rs.set i r') := by
  have m := n.own.mem (List.mem_of_getElem? hc)
  have lt := (List.getElem?_eq_some_iff.mp hc).1
  have pd : pf ≠ d := ne_of n.hp m.1 (by intro z; cases z)
  have bd : b ≠ d := fun z => n.b0.bag.some (by rw [z]; exact m.2.2)
  refine ⟨n.b0, n.p0, n.g.chg m.2.1 (.inr m.2.2), n.bag.ne bd, n.gp, ?_, ?_⟩
  · rw [upd_ne pd, n.hp]
    have e : (cs.set i (d, kws)).map (fun c => V.ref c.1) = cs.map fun c => V.ref c.1 := by
      rw [List.map_set]
      refine List.ext_getElem? fun j => ?_
      rw [List.getElem?_set]
      by_cases q : i = j
      · rw [if_pos q, List.length_map, if_pos lt, ← q, List.getElem?_map, hc]; rfl
      · rw [if_neg q]
    rw [e]
  · exact n.own.set (r := []) hc kr
/-- the row at a place -/
theorem NSt.row (n : NSt K b pf G H G' H' cs rs) {q : Int} (q0 : 0 ≤ q) (q1 : q < rs.length) : ∃ d kvs r, cs[q.toNat]? = some (d, kvs) ∧ rs[q.toNat]? = some r ∧ H' d = some (.dK kvs) ∧ KvR K G' kvs r ∧ atI (cs.map fun c => V.ref c.1) q = some (V.ref d) ∧ d ≠ b := by
  have lt : q.toNat < rs.length := by omega
  obtain ⟨d, kvs, r, e1, e2, h, _, z, kr⟩ := n.own.row lt
  refine ⟨d, kvs, r, e1, e2, h, kr, at_of (show q = ((q.toNat : Nat) : Int) by omega) (by rw [List.getElem?_map, e1]; rfl), fun e => n.b0.bag.some (by rw [← e]; exact z)⟩
/-- and so it is done: all that is new stands for good -/
theorem NSt.fin (n : NSt K b pf G H G' H' cs rs) : Gr (· = b) G H (mix H G' H') H' ∧ BagAt (mix H G' H') H' b ∧ DD K (mix H G' H') (.ref pf) (rulesD rs) := by
  have up := mix_up (H := H) n.g.fz
  refine ⟨n.g.all, n.bag.up up rfl, .lst (SqL.of (by rw [mix_new n.p0]; exact n.hp)) (DDs.of (by rw [List.length_map, List.length_map]; exact n.own.len) fun i v d a c => ?_)⟩
  rw [List.getElem?_map] at a c
  cases e1 : cs[i]? with
  | none => rw [e1] at a; cases a
  | some cc =>
    cases e2 : rs[i]? with
    | none => rw [e2] at c; cases c
    | some r =>
      rw [e1] at a
      rw [e2] at c
      cases a
      cases c
      obtain ⟨h1, h2, h3, h4⟩ := n.own.at_ i cc r e1 e2
      exact (h4.up up).dd (by rw [mix_new h3]; exact h1)
end
end Kp

set_option Elab.async false
set_option linter.all false
set_option maxRecDepth 100000
namespace Kp
open PySem PySem.Spec PyProof.Rows L2 SlX
theorem bt_list : bootBuiltins "list" = some (.type "list") := by decide +kernel
theorem bt_dict : bootBuiltins "dict" = some (.type "dict") := by decide +kernel
/-- near_rules(bag, rules, outs) -/
def spNear (K : PySem.W.Frag) : Sp := fun vs H Q _ => ∃ (b ar ao : Addr) (G : Hp) (xs : List V) (ins outs : List Str) (rs : List Row), vs = [.ref b, .ref ar, .ref ao] ∧ Bs b G H ∧ Ru K G ar xs ins rs ∧ OkIns ins ∧ G ao = some (.lst (outs.map V.str)) ∧ outs ≠ [] ∧ outs.length < 64 ∧ (∀ o ∈ outs, isName o = true) ∧
  GoB b G H (fun G' _ v => ∃ rs', DD K G' v (rulesD rs') ∧ OkRules ins rs' ∧ rs'.length = rs.length) Q
section
variable {P : Program} {w : World} {K : PySem.W.Frag} {mg : Str → Option Value} {base : Heap}
theorem dictP_k {X : Cx} {K : PySem.W.Frag} (hc : X.calm = true) (h : X.K = K := by rfl) : CallR X (.type "dict") (fun xs H Q => ∃ (a : Addr) (ps : List Addr) (kvs : List (L2.Key × V)), xs = [.ref a] ∧ SqL K H a (ps.map V.ref) ∧ Paired (fun p kv => SqT K H p [kV kv.1, kv.2]) ps kvs ∧ ∀ p, H p = none → Q (.ref p) (upd H p (.dK (mergeK [] kvs)))) := by subst h; exact call_dictP hc
theorem row_nodup {ins : List Str} {n : Nat} {r : Row} {kvs : List (L2.Key × V)} (ok : OkRow ins n r) (oi : OkIns ins) (hk : kvs.map (·.1) = r.map (fun q => (Sum.inr q.1 : L2.Key))) : (kvs.map (·.1)).Nodup := by
  rw [hk]
  have nd := ok.keys.nodup_iff.mpr oi.nd
  have e : r.map (fun q => (Sum.inr q.1 : L2.Key)) = (r.map (·.1)).map Sum.inr := by rw [List.map_map]; rfl
  rw [e]
  exact List.Pairwise.map _ (fun _ _ h e => h (Sum.inr.inj e)) nd
abbrev s_Lnear_rules : Stmt := topS 33
abbrev N_Lnear_rules : List Str := ["_law_bag_here", "_law_rules_here", "_law_outs", "_law_found", "_law_size", "_law_k", "_law_at", "_law_word", "_law_later", "_law_out", "_law_row"]
theorem sc_Lnear_rules : FnScope N_Lnear_rules ["_law_bag_here", "_law_rules_here", "_law_outs"] (defScope s_Lnear_rules) := ⟨rfl, rfl, rfl, by decide +kernel, rfl, by decide +kernel, by decide +kernel⟩
theorem ok_Lnear_rules {f : Addr} {fd : FuncData} (F : Fun K "_law_near_rules" "_law_near_rules" s_Lnear_rules f fd) (T : Bi mg) (TK : CTake P w K mg base) (CO : COne P w K mg base) : FnOk P w K mg base CX0 3 f fd ["_law_bag_here", "_law_rules_here", "_law_outs"] (spNear K) := by
  refine F.ok sc_Lnear_rules (fun vs H Q E h => ?_) (fun cdv A outer s H vs Q E hr h => ?_)
  · obtain ⟨b, ar, ao, G, xs, ins, outs, rs, rfl, _⟩ := h
    rfl
  · obtain ⟨b, ar, ao, G, xs, ins, outs, rs, rfl, B, R, oi, hao, one, o64, onm, k⟩ := h
    refine ⟨_, (pss_cons (ps_par (i := 3) (j := 4) (by rfl) sc_Lnear_rules.nd rfl rfl (by decide) rfl rfl (pa_cons (pe_lc (own := [("_law_row", 10)]) (by rfl) sc_Lnear_rules.nd (pi_list (pv 1)) (blkOk_by (N := N_Lnear_rules) (sc := defScope s_Lnear_rules) (by decide +kernel)) (fun _ _ _ _ _ => (pg_name (i := 10) sc_Lnear_rules.nd rfl (.inl rfl))) (fun _ _ _ _ _ => pts_nil) (fun _ _ _ _ _ => (pe_callTy (dictP_k (K := K) rfl) (by rfl) T.b_dict bt_dict (pa_cons (LiI.pe_listItems rfl (pv 10) (by rfl) T.b_list bt_list) pa_nil)))) (pa_cons (pe_callB call_len_seq (by rfl) T.b_len (by decide +kernel) (pa_cons (pv 1) pa_nil)) pa_nil)) (by rfl))
    (pss_cons (ps_for PassesOwn.never rfl (pi_range1 (by rfl) T.b_range (pa_cons (pe_cal TK (hr.mono (by decide)) pass0 (pa_cons (pv 0) (pa_cons pe_int pa_nil))) pa_nil)) (pg_name (i := 5) sc_Lnear_rules.nd rfl (.inl rfl))
      (pss_cons (ps_set (i := 6) sc_Lnear_rules.nd rfl (.inl rfl) (pe_cal TK (hr.mono (by decide)) pass0 (pa_cons (pv 0) (pa_cons (pv 4) pa_nil))))
      (pss_cons (ps_set (i := 7) sc_Lnear_rules.nd rfl (.inl rfl) (pe_cal CO hr pass0 (pa_cons (pv 0) (pa_cons (pe_callB (call_sortedD rfl) (by rfl) T.b_sorted (by decide +kernel) (pa_cons (pe_ix ix_list (pv 3) (pv 6) (fun _ _ => rfl)) pa_nil)) pa_nil))))
      (pss_cons (ps_asg (pe_dget (hu_of hr) (pe_ix ix_list (pv 3) (pv 6) (fun _ _ => rfl)) (pv 7) (fun _ _ => rfl)) (pg_tup rfl (pgs_cons (pg_name (i := 8) sc_Lnear_rules.nd rfl (.inl rfl)) (pgs_cons (pg_name (i := 9) sc_Lnear_rules.nd rfl (.inl rfl)) pgs_nil))))
      (pss_one (ps_dput (hu_of hr) (pe_ix ix_list (pv 3) (pv 6) (fun _ _ => rfl)) (pv 7) (pe_ix ix_list (pe_lst (pa_cons (pe_tup (pa_cons (pe_cal TK (hr.mono (by decide)) pass0 (pa_cons (pv 0) (pa_cons (pv 4) pa_nil))) (pa_cons (pv 9) pa_nil))) (pa_cons (pe_tup (pa_cons (pv 8) (pa_cons (pe_cal CO hr pass0 (pa_cons (pv 0) (pa_cons (pv 2) pa_nil))) pa_nil))) pa_nil))) (pe_cal TK (hr.mono (by decide)) pass0 (pa_cons (pv 0) (pa_cons pe_int pa_nil))) (fun _ _ => rfl)) rfl))))))
    (pss_one (ps_ret (pv 3))))), ?_⟩
    have sl : 1000 ≤ sizeLine := by decide
    have e0 := B.fz
    have hn := R.dd.length
    rw [List.length_map] at hn
    have rlt := R.ok.few
    have ilt := oi.few
    refine ⟨_, rfl, ar, rfl, ⟨_, e0.seq R.at_⟩, fun pf npf => ?_⟩
    refine lc_list (xs := xs) (fun i H' => Same H H' ∧ ∃ cs, H' pf = some (.lst (cs.map fun c => V.ref c.1)) ∧ Own K H G H' cs (rs.take i)) ⟨same_new npf, [], upd_same, .nil⟩ (fun i H' _ e => (e0.trans e.1).seq R.at_) ?_ ?_
    · rintro i x H' hx ⟨e1, cs, hpf, ow⟩
      have xi := (List.getElem?_eq_some_iff.mp hx).1
      obtain ⟨dx, hdx, hx2⟩ := R.dd.get hx
      obtain ⟨r, hr1, rfl⟩ := (by
        rw [List.getElem?_map] at hdx
        cases z : rs[i]? with
        | none => rw [z] at hdx; cases hdx
        | some r => rw [z] at hdx; exact ⟨r, rfl, (Option.some.inj hdx).symm⟩ : ∃ r, rs[i]? = some r ∧ dx = rowD r)
      have ok := R.ok.ok r (List.mem_of_getElem? hr1)
      have rne : r ≠ [] := fun e => by
        have := ok.keys.length_eq
        rw [e] at this
        exact oi.ne (List.eq_nil_of_length_eq_zero (by simpa using this.symm))
      obtain ⟨d, kvs, rfl, hd, kr⟩ := kvr_of hx2 rne
      refine ⟨rfl, _, rfl, d, kvs, rfl, e1 _ _ (e0 _ _ hd), fun H2 p ts e2 np nts pts hp hpair => ?_⟩
      have e2' : Same H' H2 := e2
      refine ⟨p, ts, kvs, rfl, SqL.of hp, paired_imp (fun a c h => SqT.of h) hpair, fun D nD => ?_⟩
      rw [mergeK_new (kvs := []) (by simpa using row_nodup ok oi kr.1), List.nil_append]
      have e3 := e1.trans e2'
      have nD0 := e3.free nD
      have pD : pf ≠ D := ne_of_none (e2' _ _ hpf) nD
      have ow2 : Own K H G (upd H2 D (.dK kvs)) cs (rs.take i) := ow.up (Same.refl _) (fun c hc => by
        have m := (ow.mem hc).1
        rw [upd_ne (ne_of_none (e2' _ _ m) nD), e2' _ _ m, m]) fun _ _ => rfl
      refine ⟨_, by rw [upd_ne pD]; exact e2' _ _ hpf, by rw [List.length_map, ow.len, List.length_take]; omega, same_chg (same_chg e3 nD0) npf, cs ++ [(D, kvs)], by rw [upd_same, List.map_append]; rfl, ?_⟩
      rw [show rs.take (i + 1) = rs.take i ++ [r] by rw [List.take_succ, hr1]; rfl]
      refine (ow2.snoc upd_same (none_of e0 nD0) nD0 kr fun c hc => ne_of_none (e2' _ _ (ow.mem hc).1) nD).up (Same.refl _) (fun c hc => upd_ne fun z => ?_) fun _ _ => rfl
      rcases List.mem_append.mp hc with h | h
      · have m := (ow.mem h).1
        rw [z, hpf] at m
        cases m
      · rw [List.mem_singleton.mp h] at z
        exact pD z.symm
    · rintro H1 ⟨e1, cs, hpf, ow⟩
      rw [hn, List.take_length] at ow
      have st0 : NSt K b pf G H G H1 cs rs := ⟨B, npf, Gr.pure e0 e1, B.bag.sameH e1 (Same.refl _), none_of e0 npf, hpf, ow⟩
      refine ⟨_, rfl, ar, xs, rfl, .inl ((e0.trans e1).seq R.at_), _, _, rfl, ?_⟩
      refine ⟨_, rfl, b, 3, G, rfl, st0.bs, by decide, by decide, fun n3 o z0 z1 B1 => ?_⟩
      have st1 := st0.draw B1
      generalize upd H1 b o = H2 at st1
      refine ⟨n3, rfl, by omega, by omega, ?_⟩
      refine for_range (lo := 0) (n := n3.toNat) (fun i σ' H' => ∃ (G' : Hp) (cs : List (Addr × List (L2.Key × V))) (rs' : List Row) (c5 c6 c7 c8 c9 c10 : Option V), σ' = [some (.ref b), some (.ref ar), some (.ref ao), some (.ref pf), some (.int xs.length), c5, c6, c7, c8, c9, c10] ∧ NSt K b pf G H G' H' cs rs' ∧ rs'.length = rs.length ∧ ∀ r ∈ rs', OkRow ins rs.length r)
        ⟨G, cs, rs, none, none, none, none, none, none, rfl, st1, rfl, R.ok.ok⟩ ?_ ?_
      · rintro i σ' H' hi ⟨G', cs, rs', c5, c6, c7, c8, c9, c10, rfl, st, rl, ok⟩
        have rpos := List.length_pos_iff.mpr R.ok.ne
        refine ⟨_, rfl, _, rfl, b, xs.length, G', rfl, st.bs, by omega, by omega, fun at_ o1 a0 a1 B2 => ?_⟩
        have st2 := st.draw B2
        generalize upd H' b o1 = H3 at st2
        obtain ⟨d, kvs, r, hc, hr0, hd, kr, hat, db⟩ := st2.row (q := at_) a0 (by omega)
        have okr := ok r (List.mem_of_getElem? hr0)
        have rk := okr.keys.length_eq
        rw [List.length_map] at rk
        have ipos := List.length_pos_iff.mpr oi.ne
        refine ⟨_, rfl, _, rfl, _, rfl, pf, _, _, .ref d, rfl, rfl, SqL.of st2.hp, hat, d, kvs, r.map (·.1), rfl, .inl hd, by rw [kr.1, List.map_map]; rfl, by rw [List.length_map]; omega, fun ys p py sy np => ?_⟩
        have st3 := st2.junk (o := .lst (ys.map V.str)) np
        have kp : upd H3 p (.lst (ys.map V.str)) p = some (.lst (ys.map V.str)) := upd_same
        have hd3 : upd H3 p (.lst (ys.map V.str)) d = some (.dK kvs) := same_new np _ _ hd
        have pb : p ≠ b := fun z => st2.bag.some (by rw [← z]; exact np)
        generalize upd H3 p (.lst (ys.map V.str)) = H4 at st3 kp hd3
        have yl := py.length_eq
        rw [List.length_map] at yl
        refine ⟨b, p, G', ys.map V.str, rfl, st3.bs, SqL.of kp, pb, by rw [List.length_map]; omega, by rw [List.length_map]; omega, fun wi wv o2 hw B3 => ?_⟩
        obtain ⟨wd, hwd, rfl⟩ := at_map hw
        have wk : wd ∈ r.map (·.1) := py.mem_iff.mp (List.mem_of_getElem? hwd)
        have st4 := st3.draw B3
        have hd4 : upd H4 b o2 d = some (.dK kvs) := by rw [upd_ne db]; exact hd3
        generalize upd H4 b o2 = H5 at st4 hd4
        obtain ⟨v, ev, hv⟩ := valV_row kr.1 kr.2 wk
        obtain ⟨t, rfl, ht⟩ := step_inv hv
        have gok := okr.get (okr.keys.mem_iff.mp wk)
        refine ⟨_, rfl, _, rfl, pf, _, _, .ref d, rfl, rfl, SqL.of st4.hp, hat, _, rfl, d, .ref t, rfl, by rw [← ev]; exact DGet.k (k := Sum.inr wd) hd4, t, _, rfl, sqT_up st4.g.fz ht, rfl, _, _, rfl, _, _, rfl, rfl, ?_⟩
        generalize get r wd = q0 at gok ht hv
        refine ⟨_, rfl, _, rfl, b, xs.length, G', rfl, st4.bs, by omega, by omega, fun nst o3 n0 n1 B4 => ?_⟩
        have st5 := st4.draw B4
        generalize upd H5 b o3 = H6 at st5
        refine ⟨_, rfl, (by show 2 ≤ sizeLine; decide), fun t1 nt1 => ?_⟩
        have st6 := st5.add (o := .tup [.int nst, .str q0.2]) nt1
        have k1 : upd G' t1 (.tup [.int nst, .str q0.2]) t1 = some (.tup [.int nst, .str q0.2]) := upd_same
        have sG1 := same_new (o := .tup [.int nst, .str q0.2]) (none_of st5.g.fz nt1)
        generalize upd G' t1 (.tup [.int nst, .str q0.2]) = G1 at st6 k1 sG1
        generalize upd H6 t1 (.tup [.int nst, .str q0.2]) = H7 at st6
        have aob : ao ≠ b := fun z => by
          have := st6.g.sub _ _ hao
          rw [z, st6.gb] at this; cases this
        refine ⟨_, rfl, _, rfl, _, rfl, b, ao, G1, outs.map V.str, rfl, st6.bs, SqL.of (st6.g.fz _ _ (st6.g.sub _ _ hao)), aob, by rw [List.length_map]; exact List.length_pos_iff.mpr one, by rw [List.length_map]; omega, fun oi2 ov o4 hov B5 => ?_⟩
        obtain ⟨ot, hot, rfl⟩ := at_map hov
        have oname := onm ot (List.mem_of_getElem? hot)
        have st7 := st6.draw B5
        generalize upd H7 b o4 = H8 at st7
        refine ⟨(by show 2 ≤ sizeLine; decide), fun t2 nt2 => ?_⟩
        have st8 := st7.add (o := .tup [.int q0.1, .str ot]) nt2
        have k2 : upd G1 t2 (.tup [.int q0.1, .str ot]) t2 = some (.tup [.int q0.1, .str ot]) := upd_same
        have sG2 := same_new (o := .tup [.int q0.1, .str ot]) (none_of st7.g.fz nt2)
        generalize upd G1 t2 (.tup [.int q0.1, .str ot]) = G2 at st8 k2 sG2
        generalize upd H8 t2 (.tup [.int q0.1, .str ot]) = H9 at st8
        have k1' := sG2 _ _ k1
        refine ⟨(by show 2 ≤ sizeLine; decide), fun l nl => ?_⟩
        have st9 := st8.junk (o := .lst [.ref t1, .ref t2]) nl
        have kl : upd H9 l (.lst [.ref t1, .ref t2]) l = some (.lst [.ref t1, .ref t2]) := upd_same
        have lb : l ≠ b := fun z => st8.bag.some (by rw [← z]; exact nl)
        generalize upd H9 l (.lst [.ref t1, .ref t2]) = H10 at st9 kl
        refine ⟨_, rfl, b, 2, G2, rfl, st9.bs, by decide, by decide, fun ch o5 h0 h1 B6 => ?_⟩
        have st10 := st9.draw B6
        have kl10 : upd H10 b o5 l = some (.lst [.ref t1, .ref t2]) := by rw [upd_ne lb]; exact kl
        generalize upd H10 b o5 = H11 at st10 kl10
        obtain ⟨tv, st', hch, htv, s0, s1, s2⟩ : ∃ (tv : Addr) (st' : Int × Str), atI [V.ref t1, V.ref t2] ch = some (V.ref tv) ∧ G2 tv = some (.tup [.int st'.1, .str st'.2]) ∧ 0 ≤ st'.1 ∧ st'.1 < rs.length ∧ isName st'.2 = true := by
          have : ch = 0 ∨ ch = 1 := by omega
          rcases this with rfl | rfl
          · exact ⟨t1, (nst, q0.2), rfl, k1', n0, by show nst < _; omega, gok.2.2.2.2⟩
          · exact ⟨t2, (q0.1, ot), rfl, k2, gok.2.2.1, gok.2.2.2.1, oname⟩
        obtain ⟨d', kvs', r', hc', hr0', hd', kr', hat', _⟩ := st10.row (q := at_) a0 (by omega)
        rw [hc] at hc'
        cases hc'
        rw [hr0] at hr0'
        cases hr0'
        have kvl : kvs.length ≤ 63 := by
          have z1 := congrArg List.length kr'.1
          simp at z1
          omega
        refine ⟨l, _, _, .ref tv, rfl, rfl, SqL.of kl10, hch, _, rfl, _, rfl, pf, _, _, .ref d, rfl, rfl, SqL.of st10.hp, hat', _, rfl, d, _, rfl, DPut.k (k := Sum.inr wd) hd' (by omega), ?_⟩
        refine ⟨G2, _, rs'.set at_.toNat (setR r wd st'), _, _, _, _, _, _, rfl, st10.put hc (kr'.put wk (DD.step (SqT.of htv))), by rw [List.length_set]; exact rl, fun r2 hr2 => ?_⟩
        rcases List.mem_or_eq_of_mem_set hr2 with h | h
        · exact ok r2 h
        · rw [h]
          exact okr.set s0 s1 s2
      · rintro σ' H' ⟨G', cs, rs', c5, c6, c7, c8, c9, c10, rfl, st, rl, ok⟩
        obtain ⟨g, bg, dd⟩ := st.fin
        refine ⟨_, rfl, k _ _ _ g bg ⟨rs', dd, ⟨fun e => ?_, by omega, fun r hr' => by rw [rl]; exact ok r hr'⟩, rl⟩⟩
        have := List.length_pos_iff.mpr R.ok.ne
        rw [e] at rl
        simp at rl
        omega
end
end Kp

set_option Elab.async false
set_option linter.all false
set_option maxRecDepth 100000
namespace Kp
open PySem PySem.Spec PyProof.Rows L2 SlX
theorem NSt.app {K : PySem.W.Frag} {b pf D : Addr} {G H G' H' : Hp} {cs : List (Addr × List (L2.Key × V))} {rs : List Row} {kvs : List (L2.Key × V)} {r : Row} (n : NSt K b pf G H G' H' cs rs) (hD : H' D = some (.dK kvs)) (gD : G' D = none) (h0 : H D = none) (kr : KvR K G' kvs r) (new : ∀ c ∈ cs, c.1 ≠ D) :
    NSt K b pf G H G' (upd H' pf (.lst ((cs.map fun c => V.ref c.1) ++ [.ref D]))) (cs ++ [(D, kvs)]) (rs ++ [r]) := by
  have pD : pf ≠ D := ne_of n.hp hD (by intro z; cases z)
  refine ⟨n.b0, n.p0, n.g.chg n.gp (.inr n.p0), n.bag.ne n.bpf.symm, n.gp, by rw [upd_same, List.map_append]; rfl, ?_⟩
  refine (n.own.snoc hD gD h0 kr new).up (Same.refl _) (fun c hc => upd_ne fun z => ?_) fun _ _ => rfl
  rcases List.mem_append.mp hc with h | h
  · have m := (n.own.mem h).1
    rw [z, n.hp] at m
    cases m
  · rw [List.mem_singleton.mp h] at z
    exact pD z.symm
/-- doubled(bag, rules) -/
def spDoubled (K : PySem.W.Frag) : Sp := fun vs H Q _ => ∃ (b ar : Addr) (G : Hp) (xs : List V) (ins : List Str) (rs : List Row), vs = [.ref b, .ref ar] ∧ Bs b G H ∧ Ru K G ar xs ins rs ∧ OkIns ins ∧ rs.length < 60 ∧
  GoB b G H (fun G' _ v => ∃ rs', DD K G' v (rulesD rs') ∧ OkRules ins rs' ∧ rs'.length = rs.length + 1) Q
section
variable {P : Program} {w : World} {K : PySem.W.Frag} {mg : Str → Option Value} {base : Heap}
abbrev s_Ldoubled : Stmt := topS 34
abbrev N_Ldoubled : List Str := ["_law_bag_here", "_law_rules_here", "_law_row", "_law_found", "_law_at", "_law_word"]
theorem sc_Ldoubled : FnScope N_Ldoubled ["_law_bag_here", "_law_rules_here"] (defScope s_Ldoubled) := ⟨rfl, rfl, rfl, by decide +kernel, rfl, by decide +kernel, by decide +kernel⟩
theorem ok_Ldoubled {f : Addr} {fd : FuncData} (F : Fun K "_law_doubled" "_law_doubled" s_Ldoubled f fd) (T : Bi mg) (TK : CTake P w K mg base) : FnOk P w K mg base CX0 2 f fd ["_law_bag_here", "_law_rules_here"] (spDoubled K) := by
  refine F.ok sc_Ldoubled (fun vs H Q E h => ?_) (fun cdv A outer s H vs Q E hr h => ?_)
  · obtain ⟨b, ar, G, xs, ins, rs, rfl, _⟩ := h
    rfl
  · obtain ⟨b, ar, G, xs, ins, rs, rfl, B, R, oi, r60, k⟩ := h
    refine ⟨_, (pss_cons (ps_par (i := 3) (j := 4) (by rfl) sc_Ldoubled.nd rfl rfl (by decide) rfl rfl (pa_cons (pe_lc (own := [("_law_row", 2)]) (by rfl) sc_Ldoubled.nd (pi_list (pv 1)) (blkOk_by (N := N_Ldoubled) (sc := defScope s_Ldoubled) (by decide +kernel)) (fun _ _ _ _ _ => (pg_name (i := 2) sc_Ldoubled.nd rfl (.inl rfl))) (fun _ _ _ _ _ => pts_nil) (fun _ _ _ _ _ => (pe_callTy (dictP_k (K := K) rfl) (by rfl) T.b_dict bt_dict (pa_cons (LiI.pe_listItems rfl (pv 2) (by rfl) T.b_list bt_list) pa_nil)))) (pa_cons (pe_cal TK hr pass0 (pa_cons (pv 0) (pa_cons (pe_callB call_len_seq (by rfl) T.b_len (by decide +kernel) (pa_cons (pv 1) pa_nil)) pa_nil))) pa_nil)) (by rfl))
    (pss_cons (ps_expr (pe_bm PySem.F.plainAttrs_list PySem.F.slot_list_append PySem.F.type_list_append mt_append (pv 3) (pa_cons (pe_callTy (dictP_k (K := K) rfl) (by rfl) T.b_dict bt_dict (pa_cons (LiI.pe_listItems rfl (pe_ix ix_list (pv 1) (pv 4) (fun _ _ => rfl)) (by rfl) T.b_list bt_list) pa_nil)) pa_nil)))
    (pss_cons (ps_for PassesOwn.never rfl (pi_list (pv 3)) (pg_name (i := 2) sc_Ldoubled.nd rfl (.inl rfl))
      (pss_one (ps_for PassesOwn.never rfl (pi_list (pe_callB (call_sortedD rfl) (by rfl) T.b_sorted (by decide +kernel) (pa_cons (pv 2) pa_nil))) (pg_name (i := 5) sc_Ldoubled.nd rfl (.inl rfl))
        (pss_one (ps_if (PW.pt (pw_and (pt_cmpR op_eq (pe_ix ix_tup (pe_dget (hu_of hr) (pv 2) (pv 5) (fun _ _ => rfl)) pe_int (fun _ _ => rfl)) (pv 4) (nomark _)) (pw_and1 (pt_cmpR op_eq (pe_cal TK hr pass0 (pa_cons (pv 0) (pa_cons pe_int pa_nil))) pe_int (nomark _)))))
          (pss_one (ps_dput (hu_of hr) (pv 2) (pv 5) (pe_tup (pa_cons (pe_callB call_len_seq (by rfl) T.b_len (by decide +kernel) (pa_cons (pv 1) pa_nil)) (pa_cons (pe_ix ix_tup (pe_dget (hu_of hr) (pv 2) (pv 5) (fun _ _ => rfl)) pe_int (fun _ _ => rfl)) pa_nil))) rfl))
          pss_nil)))))
    (pss_one (ps_ret (pv 3)))))), ?_⟩
    have sl : 1000 ≤ sizeLine := by decide
    have e0 := B.fz
    have hn := R.dd.length
    rw [List.length_map] at hn
    have rlt := R.ok.few
    have ilt := oi.few
    have rpos := List.length_pos_iff.mpr R.ok.ne
    refine ⟨_, rfl, ar, rfl, ⟨_, e0.seq R.at_⟩, fun pf npf => ?_⟩
    refine lc_list (xs := xs) (fun i H' => Same H H' ∧ ∃ cs, H' pf = some (.lst (cs.map fun c => V.ref c.1)) ∧ Own K H G H' cs (rs.take i)) ⟨same_new npf, [], upd_same, .nil⟩ (fun i H' _ e => (e0.trans e.1).seq R.at_) ?_ ?_
    · rintro i x H' hx ⟨e1, cs, hpf, ow⟩
      have xi := (List.getElem?_eq_some_iff.mp hx).1
      obtain ⟨dx, hdx, hx2⟩ := R.dd.get hx
      obtain ⟨r, hr1, rfl⟩ := (by
        rw [List.getElem?_map] at hdx
        cases z : rs[i]? with
        | none => rw [z] at hdx; cases hdx
        | some r => rw [z] at hdx; exact ⟨r, rfl, (Option.some.inj hdx).symm⟩ : ∃ r, rs[i]? = some r ∧ dx = rowD r)
      have ok := R.ok.ok r (List.mem_of_getElem? hr1)
      have rne : r ≠ [] := fun e => by
        have := ok.keys.length_eq
        rw [e] at this
        exact oi.ne (List.eq_nil_of_length_eq_zero (by simpa using this.symm))
      obtain ⟨d, kvs, rfl, hd, kr⟩ := kvr_of hx2 rne
      refine ⟨rfl, _, rfl, d, kvs, rfl, e1 _ _ (e0 _ _ hd), fun H2 p ts e2 np nts pts hp hpair => ?_⟩
      have e2' : Same H' H2 := e2
      refine ⟨p, ts, kvs, rfl, SqL.of hp, paired_imp (fun a c h => SqT.of h) hpair, fun D nD => ?_⟩
      rw [mergeK_new (kvs := []) (by simpa using row_nodup ok oi kr.1), List.nil_append]
      have e3 := e1.trans e2'
      have nD0 := e3.free nD
      have pD : pf ≠ D := ne_of_none (e2' _ _ hpf) nD
      have ow2 : Own K H G (upd H2 D (.dK kvs)) cs (rs.take i) := ow.up (Same.refl _) (fun c hc => by
        have m := (ow.mem hc).1
        rw [upd_ne (ne_of_none (e2' _ _ m) nD), e2' _ _ m, m]) fun _ _ => rfl
      refine ⟨_, by rw [upd_ne pD]; exact e2' _ _ hpf, by rw [List.length_map, ow.len, List.length_take]; omega, same_chg (same_chg e3 nD0) npf, cs ++ [(D, kvs)], by rw [upd_same, List.map_append]; rfl, ?_⟩
      rw [show rs.take (i + 1) = rs.take i ++ [r] by rw [List.take_succ, hr1]; rfl]
      refine (ow2.snoc upd_same (none_of e0 nD0) nD0 kr fun c hc => ne_of_none (e2' _ _ (ow.mem hc).1) nD).up (Same.refl _) (fun c hc => upd_ne fun z => ?_) fun _ _ => rfl
      rcases List.mem_append.mp hc with h | h
      · have m := (ow.mem h).1
        rw [z, hpf] at m
        cases m
      · rw [List.mem_singleton.mp h] at z
        exact pD z.symm
    · rintro H1 ⟨e1, cs, hpf, ow⟩
      rw [hn, List.take_length] at ow
      have st0 : NSt K b pf G H G H1 cs rs := ⟨B, npf, Gr.pure e0 e1, B.bag.sameH e1 (Same.refl _), none_of e0 npf, hpf, ow⟩
      refine ⟨_, rfl, _, rfl, ar, xs, rfl, .inl ((e0.trans e1).seq R.at_), b, xs.length, G, rfl, st0.bs, by omega, by omega, fun at_ o a0 a1 B1 => ⟨_, _, rfl, ?_⟩⟩
      have st1 := st0.draw B1
      generalize upd H1 b o = H2 at st1
      -- the row once more
      obtain ⟨d, kvs, r, hat, _, hr1, _, okr, hd, hk, hkv⟩ := R.row oi.ne a0 (by omega)
      have kr : KvR K G kvs r := ⟨hk, hkv⟩
      refine ⟨_, rfl, .inl ⟨rfl, _, SqL.of st1.hp⟩, _, rfl, _, rfl, ar, xs, _, .ref d, rfl, rfl, st1.g.fz.seq R.at_, hat, d, kvs, rfl, st1.g.fz _ _ hd, fun H3 p ts e2 np nts pts hp hpair => ?_⟩
      have e2' : Same H2 H3 := e2
      refine ⟨p, ts, kvs, rfl, SqL.of hp, paired_imp (fun a c h => SqT.of h) hpair, fun D nD => ?_⟩
      rw [mergeK_new (kvs := []) (by simpa using row_nodup okr oi hk), List.nil_append]
      have st2 : NSt K b pf G H G H3 cs rs := ⟨B, npf, st1.g.more e2', st1.bag.sameH e2' (Same.refl _), st1.gp, e2' _ _ st1.hp, st1.own.up (Same.refl _) (fun c hc => by
        have m := (st1.own.mem hc).1
        rw [e2' _ _ m, m]) fun _ _ => rfl⟩
      have nDH := st2.g.freeB st2.bag nD
      have st3 := st2.junk (o := .dK kvs) nD
      have csl := ow.len
      refine ⟨pf, _, _, rfl, rfl, st3.hp, by rw [List.length_map]; omega, ?_⟩
      have st4 := st3.app (D := D) (kvs := kvs) (r := r) upd_same (none_of st2.g.fz nD) nDH kr fun c hc => ne_of_none (st2.own.mem hc).1 nD
      have vs0e : ∃ vs0, vs0 = (cs.map fun c => V.ref c.1) ++ [V.ref D] := ⟨_, rfl⟩
      obtain ⟨vs0, hvs0⟩ := vs0e
      have hv0 : (cs ++ [(D, kvs)]).map (fun c => V.ref c.1) = vs0 := by rw [hvs0, List.map_append]; rfl
      have ok4 : ∀ r' ∈ rs ++ [r], OkRow ins (rs.length + 1) r' := fun r' hr' => by
        rcases List.mem_append.mp hr' with h | h
        · exact (R.ok.ok r' h).wide (by omega)
        · rw [List.mem_singleton.mp h]; exact okr.wide (by omega)
      have l4 : (rs ++ [r]).length = rs.length + 1 := by simp
      generalize upd (upd H3 D (.dK kvs)) pf (.lst ((cs.map fun c => V.ref c.1) ++ [V.ref D])) = H4 at st4
      generalize cs ++ [(D, kvs)] = cs4 at st4 hv0
      generalize rs ++ [r] = rs4 at st4 ok4 l4
      have hp4 := st4.hp
      rw [hv0] at hp4
      refine ⟨_, rfl, pf, rfl, ⟨_, SqL.of hp4⟩, ?_⟩
      refine for_list (xs := vs0) (fun i σ' H' => ∃ (G' : Hp) (cs : List (Addr × List (L2.Key × V))) (rs' : List Row) (c2 c5 : Option V), σ' = [some (.ref b), some (.ref ar), c2, some (.ref pf), some (.int at_), c5] ∧ NSt K b pf G H G' H' cs rs' ∧ cs.map (fun c => V.ref c.1) = vs0 ∧ rs'.length = rs.length + 1 ∧ ∀ r ∈ rs', OkRow ins (rs.length + 1) r)
        ⟨G, cs4, rs4, _, _, rfl, st4, hv0, l4, ok4⟩ ?_ ?_ ?_
      · rintro i σ' H' _ ⟨G', cs, rs', c2, c5, _, st, e, _⟩
        have := st.hp
        rw [e] at this
        exact SqL.of this
      · rintro i x σ' H' hx ⟨G', cs, rs', c2, c5, rfl, st, ev, rl, ok⟩
        have il : i < rs'.length := by
          have z1 := (List.getElem?_eq_some_iff.mp hx).1
          rw [← ev, List.length_map, st.own.len] at z1
          exact z1
        obtain ⟨d1, kv1, r1, hc, hr0, hd1, kr1, _, db⟩ := st.row (q := (i : Int)) (by omega) (by omega)
        have ti : (i : Int).toNat = i := rfl
        rw [ti] at hc hr0
        have xd : x = .ref d1 := by
          rw [← ev, List.getElem?_map, hc] at hx
          exact (Option.some.inj hx).symm
        subst xd
        have okr1 := ok r1 (List.mem_of_getElem? hr0)
        have rk := okr1.keys.length_eq
        rw [List.length_map] at rk
        refine ⟨_, rfl, d1, kv1, r1.map (·.1), rfl, .inl hd1, by rw [kr1.1, List.map_map]; rfl, by rw [List.length_map]; omega, fun ys p py sy np => ?_⟩
        refine ⟨p, rfl, ⟨_, SqL.of upd_same⟩, ?_⟩
        have st5 := st.junk (o := .lst (ys.map V.str)) np
        have pb : p ≠ b := fun z => st.bag.some (by rw [← z]; exact np)
        have kp : upd H' p (.lst (ys.map V.str)) p = some (.lst (ys.map V.str)) := upd_same
        generalize upd H' p (.lst (ys.map V.str)) = H5 at st5 kp
        refine for_list (xs := ys.map V.str) (fun j σ' H' => ∃ (G' : Hp) (cs : List (Addr × List (L2.Key × V))) (rs' : List Row) (c5 : Option V), σ' = [some (.ref b), some (.ref ar), some (.ref d1), some (.ref pf), some (.int at_), c5] ∧ NSt K b pf G H G' H' cs rs' ∧ cs.map (fun c => V.ref c.1) = vs0 ∧ rs'.length = rs.length + 1 ∧ (∀ r ∈ rs', OkRow ins (rs.length + 1) r) ∧ H' p = some (.lst (ys.map V.str)))
          ⟨G', cs, rs', _, rfl, st5, ev, rl, ok, kp⟩ ?_ ?_ ?_
        · rintro j σ' H' _ ⟨_, _, _, _, _, _, _, _, _, h⟩
          exact SqL.of h
        · rintro j y σ' H' hy ⟨G', cs, rs', c5, rfl, st, ev, rl, ok, kp⟩
          obtain ⟨wd, hwd, rfl⟩ := at_map hy
          have win : wd ∈ ins := okr1.keys.mem_iff.mp (py.mem_iff.mp (List.mem_of_getElem? hwd))
          obtain ⟨d2, kv2, r2, hc2, hr2, hd2, kr2, _, db2⟩ := st.row (q := (i : Int)) (by omega) (by omega)
          rw [ti] at hc2 hr2
          have dd : d2 = d1 := by
            have z : (cs.map fun c => V.ref c.1)[i]? = some (V.ref d2) := by rw [List.getElem?_map, hc2]; rfl
            rw [ev, hx] at z
            injection z with z
            injection z with z
            exact z.symm
          subst dd
          have okr2 := ok r2 (List.mem_of_getElem? hr2)
          have wk : wd ∈ r2.map (·.1) := okr2.keys.mem_iff.mpr win
          have gok := okr2.get win
          obtain ⟨v, ev2, hv2⟩ := valV_row kr2.1 kr2.2 wk
          obtain ⟨t, rfl, ht⟩ := step_inv hv2
          generalize get r2 wd = q0 at gok ht hv2
          have htH := sqT_up st.g.fz ht
          refine ⟨_, rfl, _, rfl, d2, .ref t, rfl, by rw [← ev2]; exact DGet.k (k := Sum.inr wd) hd2, t, _, _, .int q0.1, rfl, rfl, htH, rfl, _, rfl, rfl, _, rfl, ite2 (fun c => ?_) fun c => ?_⟩
          · refine ⟨_, rfl, b, 2, G', rfl, st.bs, by decide, by decide, fun ch o5 h0 h1 B6 => ?_⟩
            have st6 := st.draw B6
            have kp6 : upd H' b o5 p = some (.lst (ys.map V.str)) := by rw [upd_ne pb]; exact kp
            have hd6 : upd H' b o5 d2 = some (.dK kv2) := by rw [upd_ne db2]; exact hd2
            generalize upd H' b o5 = H6 at st6 kp6 hd6
            have htH6 := sqT_up st6.g.fz ht
            refine ⟨rfl, _, rfl, ite2 (fun c2 => ?_) fun c2 => ?_⟩
            · refine ⟨_, rfl, ar, xs, rfl, .inl (st6.g.fz.seq (st6.g.sub.seq R.at_)), _, rfl, _, rfl, d2, .ref t, rfl, by rw [← ev2]; exact DGet.k (k := Sum.inr wd) hd6, t, _, _, .str q0.2, rfl, rfl, htH6, rfl, (by show 2 ≤ sizeLine; decide), fun t7 nt7 => ?_⟩
              have st7 := st6.add (o := .tup [.int xs.length, .str q0.2]) nt7
              have k7 : upd G' t7 (.tup [.int xs.length, .str q0.2]) t7 = some (.tup [.int xs.length, .str q0.2]) := upd_same
              have hd7 : upd H6 t7 (.tup [.int xs.length, .str q0.2]) d2 = some (.dK kv2) := same_new nt7 _ _ hd6
              have kp7 : upd H6 t7 (.tup [.int xs.length, .str q0.2]) p = some (.lst (ys.map V.str)) := same_new nt7 _ _ kp6
              have sG7 := same_new (o := .tup [.int xs.length, .str q0.2]) (none_of st6.g.fz nt7)
              have kvl : kv2.length ≤ 63 := by
                have z1 := congrArg List.length kr2.1
                have z2 := okr2.keys.length_eq
                simp at z1 z2
                omega
              refine ⟨_, rfl, _, rfl, d2, _, rfl, DPut.k (k := Sum.inr wd) hd7 (by omega), ?_⟩
              have dp : p ≠ d2 := ne_of kp7 hd7 (by intro z; cases z)
              refine ⟨_, _, rs'.set i (setR r2 wd ((xs.length : Int), q0.2)), _, rfl, st7.put hc2 ((kr2.up sG7).put wk (DD.step (p := ((xs.length : Int), q0.2)) (SqT.of k7))), ?_, by rw [List.length_set]; exact rl, fun r3 hr3 => ?_, by rw [upd_ne dp]; exact kp7⟩
              · rw [← ev, List.map_set]
                refine List.ext_getElem? fun j2 => ?_
                rw [List.getElem?_set]
                by_cases q : i = j2
                · rw [if_pos q, List.length_map, if_pos (List.getElem?_eq_some_iff.mp hc2).1, ← q, List.getElem?_map, hc2]; rfl
                · rw [if_neg q]
              · rcases List.mem_or_eq_of_mem_set hr3 with h | h
                · exact ok r3 h
                · rw [h]
                  exact okr2.set (by show (0 : Int) ≤ _; omega) (by show (xs.length : Int) < _; omega) gok.2.2.2.2
            · exact ⟨G', cs, rs', _, rfl, st6, ev, rl, ok, kp6⟩
          · exact ⟨G', cs, rs', _, rfl, st, ev, rl, ok, kp⟩
        · rintro σ' H' ⟨G', cs, rs', c5, rfl, st, ev, rl, ok, kp⟩
          exact ⟨G', cs, rs', _, _, rfl, st, ev, rl, ok⟩
      · rintro σ' H' ⟨G', cs, rs', c2, c5, rfl, st, ev, rl, ok⟩
        obtain ⟨g, bg, dd⟩ := st.fin
        refine ⟨_, rfl, k _ _ _ g bg ⟨rs', dd, ⟨fun e => ?_, by omega, fun r hr' => by rw [rl]; exact ok r hr'⟩, rl⟩⟩
        rw [e] at rl
        simp at rl
end
end Kp

set_option Elab.async false
set_option linter.all false
set_option maxRecDepth 100000
namespace Kp
open PySem PySem.Spec PyProof.Rows L2 SlX
/-- all_behind(one, other, some): some, and what comes behind -/
def spAllBehind (K : PySem.W.Frag) : Sp := fun vs H Q _ => ∃ (a1 a2 a : Addr) (G : Hp) (x1 x2 xs : List V) (ins : List Str) (r1 r2 : List Row) (ms : List Pr), vs = [.ref a1, .ref a2, .ref a] ∧ Same G H ∧ Ru K G a1 x1 ins r1 ∧ Ru K G a2 x2 ins r2 ∧ OkIns ins ∧ SqL K G a xs ∧ DDs K G xs (ms.map pairD) ∧ (∀ p ∈ ms, inR r1.length r2.length p) ∧ ms.length + r1.length * r2.length < 64 ∧
  Go G H (fun G' _ v => ∃ ms' : List Pr, DD K G' v (.list (ms'.map pairD)) ∧ ms'.length < 64 ∧ ∀ p ∈ ms', inR r1.length r2.length p) Q
section
variable {P : Program} {w : World} {K : PySem.W.Frag} {mg : Str → Option Value} {base : Heap}
abbrev s_Lall_behind : Stmt := topS 40
abbrev N_Lall_behind : List Str := ["_law_one_here", "_law_other", "_law_some", "_law_found", "_law_at", "_law_here", "_law_there", "_law_word", "_law_more"]
theorem sc_Lall_behind : FnScope N_Lall_behind ["_law_one_here", "_law_other", "_law_some"] (defScope s_Lall_behind) := ⟨rfl, rfl, rfl, by decide +kernel, rfl, by decide +kernel, by decide +kernel⟩
theorem nx_inR {ins : List Str} {r1 r2 : List Row} (o1 : OkRules ins r1) (o2 : OkRules ins r2) {p : Pr} (h : inR r1.length r2.length p) {k : Str} (hk : k ∈ ins) : inR r1.length r2.length (nx r1 r2 p k) := nx_in o1 o2 h hk
theorem ok_Lall_behind {f : Addr} {fd : FuncData} (F : Fun K "_law_all_behind" "_law_all_behind" s_Lall_behind f fd) (T : Bi mg) : FnOk P w K mg base CX0 1 f fd ["_law_one_here", "_law_other", "_law_some"] (spAllBehind K) := by
  refine F.ok sc_Lall_behind (fun vs H Q E h => ?_) (fun cdv A outer s H vs Q E hr h => ?_)
  · obtain ⟨a1, a2, a, G, x1, x2, xs, ins, r1, r2, ms, rfl, _⟩ := h
    rfl
  · obtain ⟨a1, a2, a, G, x1, x2, xs, ins, r1, r2, ms0, rfl, e0, R1, R2, oi, ha, hxs, inr0, bnd, k⟩ := h
    refine ⟨_, (pss_cons (ps_par (i := 3) (j := 4) (by rfl) sc_Lall_behind.nd rfl rfl (by decide) rfl rfl (pa_cons (pe_callTy call_list_of (by rfl) T.b_list (by decide +kernel) (pa_cons (pv 2) pa_nil)) (pa_cons pe_int pa_nil)) (by rfl))
    (pss_cons (ps_while PassesOwn.never (pt_cmpR op_lt (pv 4) (pe_callB call_len_seq (by rfl) T.b_len (by decide +kernel) (pa_cons (pv 3) pa_nil)) (nomark _))
      (pss_cons (ps_asg (pe_ix ix_list (pv 3) (pv 4) (fun _ _ => rfl)) (pg_tup rfl (pgs_cons (pg_name (i := 5) sc_Lall_behind.nd rfl (.inl rfl)) (pgs_cons (pg_name (i := 6) sc_Lall_behind.nd rfl (.inl rfl)) pgs_nil))))
      (pss_cons (ps_for PassesOwn.never rfl (pi_list (pe_callB (call_sortedD rfl) (by rfl) T.b_sorted (by decide +kernel) (pa_cons (pe_ix ix_list (pv 0) (pv 5) (fun _ _ => rfl)) pa_nil))) (pg_name (i := 7) sc_Lall_behind.nd rfl (.inl rfl))
        (pss_cons (ps_set (i := 8) sc_Lall_behind.nd rfl (.inl rfl) (pe_tup (pa_cons (pe_ix ix_tup (pe_dget (hu_of hr) (pe_ix ix_list (pv 0) (pv 5) (fun _ _ => rfl)) (pv 7) (fun _ _ => rfl)) pe_int (fun _ _ => rfl)) (pa_cons (pe_ix ix_tup (pe_dget (hu_of hr) (pe_ix ix_list (pv 1) (pv 6) (fun _ _ => rfl)) (pv 7) (fun _ _ => rfl)) pe_int (fun _ _ => rfl)) pa_nil))))
        (pss_one (ps_if (pt_cmpR (op_notInD (Room.u65 hr)) (pv 8) (pv 3) rfl)
          (pss_one (ps_expr (pe_bm PySem.F.plainAttrs_list PySem.F.slot_list_append PySem.F.type_list_append mt_append (pv 3) (pa_cons (pv 8) pa_nil))))
          pss_nil))))
      (pss_one (ps_aug (i := 4) sc_Lall_behind.nd rfl (.inl rfl) pe_int ip_add)))))
    (pss_one (ps_ret (pv 3))))), ?_⟩
    have sl : 1000 ≤ sizeLine := by decide
    have hl0 := hxs.length
    rw [List.length_map] at hl0
    refine ⟨_, rfl, a, xs, rfl, .inl (e0.seq ha), fun pf npf => ⟨_, _, rfl, ?_⟩⟩
    have gpf := none_of e0 npf
    have g0 : Gr W0 G H G (upd H pf (.lst xs)) := (Gr.refl e0).chg gpf (.inr npf)
    have k0 : upd H pf (.lst xs) pf = some (.lst xs) := upd_same
    generalize upd H pf (.lst xs) = H1 at g0 k0
    have few : ∀ {nw : List Pr}, nw.Nodup → (∀ p ∈ nw, inR r1.length r2.length p) → nw.length ≤ r1.length * r2.length := fun nd h => few_pairs nd h
    refine ⟨fun m σ' H' => ∃ (n : Nat) (nw : List Pr) (vs : List V) (G' : Hp) (c5 c6 c7 c8 : Option V), m + n = ms0.length + r1.length * r2.length ∧ n ≤ (ms0 ++ nw).length ∧ σ' = [some (.ref a1), some (.ref a2), some (.ref a), some (.ref pf), some (.int n), c5, c6, c7, c8] ∧ Gr W0 G H G' H' ∧ G' pf = none ∧ H' pf = some (.lst vs) ∧ DDs K G' vs ((ms0 ++ nw).map pairD) ∧ nw.Nodup ∧ (∀ p ∈ nw, p ∉ ms0) ∧ ∀ p ∈ ms0 ++ nw, inR r1.length r2.length p, ?_, ?_⟩
    · exact ⟨_, 0, [], xs, G, none, none, none, none, rfl, Nat.zero_le _, rfl, g0, gpf, k0, by rw [List.append_nil]; exact hxs, List.nodup_nil, fun p hp => (by cases hp), by rw [List.append_nil]; exact inr0⟩
    · rintro m σ' H' ⟨n, nw, vs, G', c5, c6, c7, c8, hm, hn, rfl, g, gp, hp, dv, nd, nm0, inr⟩
      have vl := dv.length
      rw [List.length_map] at vl
      refine ⟨_, rfl, _, rfl, pf, vs, rfl, .inl (SqL.of hp), _, _, rfl, rfl, _, rfl, ite2 (fun c => ?_) fun c => ?_⟩
      · have c' : n < (ms0 ++ nw).length := by
          have := of_decide_eq_true c
          omega
        have fw := few nd fun p hp => inr p (List.mem_append_right _ hp)
        have c2 := c'
        rw [List.length_append] at c2
        refine ⟨fun σ' H' => ∃ (nw : List Pr) (vs : List V) (G' : Hp) (c5 c6 c7 c8 : Option V), n + 1 ≤ (ms0 ++ nw).length ∧ σ' = [some (.ref a1), some (.ref a2), some (.ref a), some (.ref pf), some (.int (n + 1 : Nat)), c5, c6, c7, c8] ∧ Gr W0 G H G' H' ∧ G' pf = none ∧ H' pf = some (.lst vs) ∧ DDs K G' vs ((ms0 ++ nw).map pairD) ∧ nw.Nodup ∧ (∀ p ∈ nw, p ∉ ms0) ∧ ∀ p ∈ ms0 ++ nw, inR r1.length r2.length p, ?_, ?_⟩
        · rintro σ' H' ⟨nw, vs, G', c5, c6, c7, c8, r⟩
          exact ⟨m - 1, by omega, n + 1, nw, vs, G', c5, c6, c7, c8, by omega, r⟩
        obtain ⟨q, hq⟩ : ∃ q, (ms0 ++ nw)[n]? = some q := ⟨_, List.getElem?_eq_getElem c'⟩
        have inq := inr q (List.mem_of_getElem? hq)
        obtain ⟨v, hv, hv2⟩ := dv.getD (i := n) (show ((ms0 ++ nw).map pairD)[n]? = some (pairD q) by rw [List.getElem?_map, hq]; rfl)
        obtain ⟨tq, rfl, htq⟩ := pair_inv hv2
        refine ⟨_, rfl, _, rfl, pf, vs, _, .ref tq, rfl, rfl, SqL.of hp, at_of rfl hv, tq, _, rfl, sqT_up g.fz htq, rfl, _, _, rfl, _, _, rfl, rfl, ?_⟩
        have eG := e0.trans g.has
        obtain ⟨d1, kv1, row1, at1, _, _, g1, ok1, hd1, hk1, hs1⟩ := R1.row oi.ne inq.1.1 inq.1.2
        obtain ⟨d2, kv2, row2, at2, _, _, g2, ok2, hd2, hk2, hs2⟩ := R2.row oi.ne inq.2.1 inq.2.2
        have rk := ok1.keys.length_eq
        rw [List.length_map] at rk
        have ilt := oi.few
        refine ⟨_, rfl, _, rfl, a1, x1, _, .ref d1, rfl, rfl, eG.seq R1.at_, at1, d1, kv1, row1.map (·.1), rfl, .inl (eG _ _ hd1), by rw [hk1, List.map_map]; rfl, by rw [List.length_map]; omega, fun ys pl py sy npl => ?_⟩
        refine ⟨pl, rfl, ⟨_, SqL.of upd_same⟩, ?_⟩
        have ppl : pf ≠ pl := ne_of_none hp npl
        refine for_list (xs := ys.map V.str) (fun i σ' H' => ∃ (nw : List Pr) (vs : List V) (G' : Hp) (c7 c8 : Option V), n < (ms0 ++ nw).length ∧ σ' = [some (.ref a1), some (.ref a2), some (.ref a), some (.ref pf), some (.int n), some (.int q.1), some (.int q.2), c7, c8] ∧ Gr W0 G H G' H' ∧ G' pf = none ∧ H' pf = some (.lst vs) ∧ DDs K G' vs ((ms0 ++ nw).map pairD) ∧ nw.Nodup ∧ (∀ p ∈ nw, p ∉ ms0) ∧ (∀ p ∈ ms0 ++ nw, inR r1.length r2.length p) ∧ H' pl = some (.lst (ys.map V.str)))
          ⟨nw, vs, G', c7, c8, c', rfl, g.more (same_new npl), gp, by rw [upd_ne ppl]; exact hp, dv, nd, nm0, inr, upd_same⟩ ?_ ?_ ?_
        · rintro i σ' H' _ ⟨_, _, _, _, _, _, _, _, _, _, _, _, _, _, h⟩
          exact SqL.of h
        · clear dv nd nm0 inr g gp hp hv hq c' eG fw c2
          rintro i x σ' H' hx ⟨nw, vs, G', c7, c8, c', rfl, g, gp, hp, dv, nd, nm0, inr, hpl⟩
          obtain ⟨wd, hwd, rfl⟩ := at_map hx
          have win : wd ∈ ins := ok1.keys.mem_iff.mp (py.mem_iff.mp (List.mem_of_getElem? hwd))
          have eG := e0.trans g.has
          obtain ⟨t1, v1, q1⟩ := R1.stp g1 ok1 hk1 hs1 win
          obtain ⟨t2, v2, q2⟩ := R2.stp g2 ok2 hk2 hs2 win
          have vl := dv.length
          rw [List.length_map, List.length_append] at vl
          have fw := few nd fun p hp => inr p (List.mem_append_right _ hp)
          refine ⟨_, rfl, _, rfl, a1, x1, _, .ref d1, rfl, rfl, eG.seq R1.at_, at1, _, rfl, d1, .ref t1, rfl, by rw [← v1]; exact DGet.k (k := Sum.inr wd) (eG _ _ hd1), t1, _, _, .int _, rfl, rfl, sqT_up eG q1, rfl, ?_⟩
          refine ⟨_, rfl, _, rfl, a2, x2, _, .ref d2, rfl, rfl, eG.seq R2.at_, at2, _, rfl, d2, .ref t2, rfl, by rw [← v2]; exact DGet.k (k := Sum.inr wd) (eG _ _ hd2), t2, _, _, .int _, rfl, rfl, sqT_up eG q2, rfl, (by show 2 ≤ sizeLine; decide), fun t nt => ?_⟩
          have pt : pf ≠ t := ne_of_none hp nt
          have plt : pl ≠ t := ne_of_none hpl nt
          have nt0 := g.has.free nt
          have gt := none_of g.fz nt
          have g3 := g.add (o := .tup [.int (Kp.stp r1 q.1 wd).1, .int (Kp.stp r2 q.2 wd).1]) nt0 nt
          have sG := same_new (o := .tup [.int (Kp.stp r1 q.1 wd).1, .int (Kp.stp r2 q.2 wd).1]) gt
          have kt : upd G' t (.tup [.int (Kp.stp r1 q.1 wd).1, .int (Kp.stp r2 q.2 wd).1]) t = some (.tup [.int (nx r1 r2 q wd).1, .int (nx r1 r2 q wd).2]) := upd_same
          have hp3 : upd H' t (.tup [.int (Kp.stp r1 q.1 wd).1, .int (Kp.stp r2 q.2 wd).1]) pf = some (.lst vs) := by rw [upd_ne pt]; exact hp
          have hl3 : upd H' t (.tup [.int (Kp.stp r1 q.1 wd).1, .int (Kp.stp r2 q.2 wd).1]) pl = some (.lst (ys.map V.str)) := by rw [upd_ne plt]; exact hpl
          have gp3 : upd G' t (.tup [.int (Kp.stp r1 q.1 wd).1, .int (Kp.stp r2 q.2 wd).1]) pf = none := by rw [upd_ne pt]; exact gp
          have dv3 := dv.up sG
          have dn := DD.pair (K := K) (SqT.of kt)
          generalize upd G' t (.tup [.int (Kp.stp r1 q.1 wd).1, .int (Kp.stp r2 q.2 wd).1]) = G3 at g3 kt gp3 dv3 dn
          generalize upd H' t (.tup [.int (Kp.stp r1 q.1 wd).1, .int (Kp.stp r2 q.2 wd).1]) = H3 at g3 hp3 hl3
          refine ⟨_, rfl, _, rfl, pairD (nx r1 r2 q wd), (ms0 ++ nw).map pairD, (dn.up g3.fz).dp rfl, .lst (SqL.of hp3) ((dv3.up g3.fz).dp (plain_pairs _)), shaped_pair _, shaped_pairs _, _, rfl, ?_⟩
          rw [any_pair]
          refine ite2 (fun c3 => ?_) fun c3 => ?_
          · have nm : nx r1 r2 q wd ∉ ms0 ++ nw := by simpa using c3
            have nm' : nx r1 r2 q wd ∉ ms0 ∧ nx r1 r2 q wd ∉ nw := ⟨fun h => nm (List.mem_append_left _ h), fun h => nm (List.mem_append_right _ h)⟩
            refine ⟨_, rfl, .inl ⟨rfl, _, SqL.of hp3⟩, _, rfl, pf, vs, _, rfl, rfl, hp3, by omega, ?_⟩
            refine ⟨nw ++ [nx r1 r2 q wd], vs ++ [.ref t], G3, _, _, by rw [← List.append_assoc, List.length_append]; omega, rfl, g3.chg gp3 (.inr npf), gp3, upd_same, ?_, ?_, ?_, ?_, by rw [upd_ne ppl.symm]; exact hl3⟩
            · rw [← List.append_assoc, List.map_append]
              exact dv3.append (.one dn)
            · rw [List.nodup_append]
              refine ⟨nd, by simp, fun x hx y hy => ?_⟩
              rw [List.mem_singleton.mp hy]
              intro z
              rw [z] at hx
              exact nm'.2 hx
            · intro p hp
              rcases List.mem_append.mp hp with h | h
              · exact nm0 p h
              · rw [List.mem_singleton.mp h]; exact nm'.1
            · rw [← List.append_assoc]
              intro p hp
              rcases List.mem_append.mp hp with h | h
              · exact inr p h
              · rw [List.mem_singleton.mp h]; exact nx_inR R1.ok R2.ok inq win
          · exact ⟨nw, vs, G3, _, _, c', rfl, g3, gp3, hp3, dv3, nd, nm0, inr, hl3⟩
        · rintro σ' H' ⟨nw, vs, G', c7, c8, c', rfl, g, gp, hp, dv, nd, nm0, inr, hpl⟩
          exact ⟨_, rfl, _, _, rfl, rfl, nw, vs, G', _, _, _, _, c', rfl, g, gp, hp, dv, nd, nm0, inr⟩
      · have fw := few nd fun p hp => inr p (List.mem_append_right _ hp)
        refine ⟨_, rfl, k _ _ _ (g.freeze npf hp) ⟨ms0 ++ nw, .lst (SqL.of upd_same) (dv.up (same_new gp)), by rw [List.length_append]; omega, inr⟩⟩
end
end Kp

set_option Elab.async false
set_option linter.all false
set_option maxRecDepth 100000
namespace Kp
open PySem PySem.Spec PyProof.Rows L2
/-- {t: v}, t a tuple of ints and texts -/
def tDisp1T (tk tv : TE) : TE := fun σ H Q => ∀ p, H p = none → tk σ (upd H p (.dT [])) fun x H1 => tv σ H1 fun y H2 => ∃ (b : Addr) (ks : List L2.Key), x = .ref b ∧ H2 b = some (.tup (ks.map kV)) ∧ H2 p = some (.dT []) ∧ Q (.ref p) (upd H2 p (.dT [(ks, y)]))
section
variable {X : Cx}
theorem pe_disp1T {k v : Expr} {pos : Pos} {tk tv : TE} (hu : X.A.units + 1 < cLine) (hk : PE X k tk) (hv : PE X v tv) : PE X (.Dict [some k] [v] pos) (tDisp1T tk tv) := by
  refine ⟨fun pins s σ H Q I q => ?_⟩
  have hn := I.hok.fresh (Nat.le_refl s.heap.objs.size)
  have I1 := I.laid (a := s.heap.objs.size) (o := .dT []) (h' := s.heap.push { cls := .type "dict", data := .dict #[] }) (t' := s.toks) (fun _ _ q => Heap.get?_push_of_some _ q) (Nat.le_refl _) (dt_empty s.heap I.big)
  have shape : (evalEachOpt [some k] X.env).zip ((evalEach [v] X.env).map fun v => do let x ← v; standAt pos; pure x) = [((eval k X.env : Sem Value), (do let x ← eval v X.env; standAt pos; pure x : Sem Value))].map fun p => (some p.1, p.2) := rfl
  rw [arm_eval_Dict, shape, dictDisplay_pairs _ (by simp) (by simp)]
  refine wpAny_bind (wpAny_standAt (wpAny_bind (wpAny_subDict_any (by simp) ?_)))
  refine evalPairs_cons (thn (hk.run pins _ σ _ _ I1 (q _ hn)) fun u1 s1 ⟨x, H1, J1, r1, q1⟩ => ?_)
  refine wpAny_bind (thn (hv.run pins _ σ _ _ J1 q1) fun u2 s2 ⟨y, H2, J2, r2, b, ks, ex, hb, hp, q2⟩ => wpAny_bind (wpAny_standAt (wpAny_pure (evalPairs_nil ?_))))
  subst ex
  cases (show u1 = Value.ref b from r1)
  obtain ⟨z, hd, xs, rel, dd⟩ := dt_of J2.hok hp
  cases rel
  unfold storeAll
  rw [List.forIn_cons]
  refine wpAny_bind (wpAny_bind (wpAny_dictSet_heap (hsz := Nat.zero_le _) (by show X.A.units < cLine; omega) (key_of J2.hok hb) dd fun h' dd' hs => wpAny_pure ?_))
  show wpAny _ _ (forIn [] PUnit.unit _) _ _ _
  rw [List.forIn_nil]
  refine wpAny_pure (wpAny_pure ⟨.ref s.heap.objs.size, _, ?_, rfl, q2⟩)
  obtain ⟨ob, es, ep, e1, e2, e3, e4, _, e5⟩ := dd'
  have kt : KT H2 [(ks, y)] (storedH [] ks b u2) := KT.put .nil ks hb r2
  have one : 1 ≤ sizeLine := by decide
  refine d_write J2 (by rw [hp]; exact True.intro) hs ⟨ob, e1⟩ ⟨one, hd, _, kt.keeps fun c ys ec => ?_, ob, es, ep, e1, e2, e3, e4, e5⟩
  rw [upd_ne (ne_of ec hp fun z => nomatch z)]
  exact ec
end
end Kp

set_option Elab.async false
set_option linter.all false
set_option maxRecDepth 100000
namespace Kp
open PySem PySem.Spec PyProof.Rows L2
/-- sorted(d), d a dict whose keys are pairs of ints -/
def rSortedDT : List V → Hp → VK → Prop := fun xs H Q => ∃ d kvs, xs = [V.ref d] ∧ Rd H d (.dT kvs) ∧ ∀ bs, IsKeys H kvs bs → ∃ k : V → Int × Int, (∀ x ∈ bs.map V.ref, ∃ t, x = V.ref t ∧ H t = some (.tup [.int (k x).1, .int (k x).2])) ∧
  ∀ ys p, SrtO.Srtd (ltP k) ys → SrtO.Stb (ltP k) ys (bs.map V.ref) → H p = none → Q (.ref p) (upd H p (.lst ys))
section
variable {X : Cx}
theorem call_sortedDT (hc : X.calm = true) : CallR X (.builtin "sorted") rSortedDT := by
  intro pins s σ H xs us Q I r h
  obtain ⟨d, kvs, rfl, hd, q⟩ := h
  obtain ⟨u, rfl, rx⟩ := r.one
  cases rx
  obtain ⟨z, hs, ks, pr, o, es, ep, ho, hx, hdt, he, hn⟩ := (show ObjOk X.prog X.w H s.heap d (.dT kvs) from hd.ok I.hok)
  have l1 : es.size = ks.length := size_of_entries he
  have l2 : kvs.length = ks.length := Paired.length pr
  obtain ⟨k, hx2, q⟩ := q _ (isKeys_of pr)
  refine Calls.call_function_entry PyProof.Rows.kind_sorted PyProof.Rows.plain_sorted PyProof.Rows.entry_sorted (PyProof.Rows.args_sorted1 _) ?_
  unfold Builtin.«sorted»
  refine wpAny_bind (m := checkCount "sorted" 1 1 _) (wpAny_pure ?_)
  refine wpAny_bind (PySem.W.kdu_collect (A := X.A.in1) (kdl_raw hs hx hdt) (I.ok.hd hc) ho (by omega) fun h' tk acc' kp it => ?_)
  have ea : acc'.toList = ks.map fun x => Value.ref x.2.1 := by
    have hl : acc'.toList.length = ks.length := by rw [Array.length_toList, it.1]; exact l1
    apply List.ext_getElem?
    intro j
    rw [List.getElem?_map]
    cases hj : acc'.toList[j]? with
    | none =>
      have h1 := List.getElem?_eq_none_iff.mp hj
      rw [List.getElem?_eq_none (by omega)]
      all_goals rfl
    | some v =>
      obtain ⟨en, hen, hv⟩ := it.2 j v (by rw [← Array.getElem?_toList]; exact hj)
      have qe := entry_at he j
      rw [hen] at qe
      cases hb : ks[j]? with
      | none =>
        rw [hb] at qe
        exact nomatch (show some en = none from qe)
      | some b =>
        rw [hb] at qe
        have e2 : en = entryOfKey (tupleKind (mixKind X.prog X.w)) b := Option.some.inj qe
        rw [hv, e2]
        all_goals rfl
  have hal : acc'.toList.length ≤ sizeLine := by rw [Array.length_toList, it.1]; omega
  have I1 : Inv X pins σ H { s with heap := h', toks := tk } := I.kept kp
  have e1 : (ks.map fun x => x.2.1).map V.ref = acc'.toList.map backV := by
    rw [ea, List.map_map, List.map_map]
    rfl
  have e2 : ∀ v ∈ acc'.toList, ∃ a, v = Value.ref a := fun v hv => by
    rw [ea] at hv
    obtain ⟨x, _, rfl⟩ := List.mem_map.mp hv
    exact ⟨_, rfl⟩
  refine wpAny_bind (wpAny_newList ?_ hal)
  have hoL : (h'.push (seqObj "list" acc'.toList.toArray 0)).get? h'.objs.size = some (seqObj "list" acc'.toList.toArray 0) := Heap.get?_push_size _ rfl
  show wpAny _ _ _ _ _ { s with heap := h'.push (seqObj "list" acc'.toList.toArray 0), toks := tk }
  refine wpAny_bind (wpAny_holding (wpAny_call_entry PyProof.Rows.slot_list_sort ⟨_, hoL, rfl⟩ PyProof.Rows.entry_list_sort
    (SrtO.list_sort_ord (s := { s with heap := h'.push (seqObj "list" acc'.toList.toArray 0), toks := tk }) (SrtO.swo_lex fun u => k (backV u)) hoL hal (fun h2 => ?_) fun out h1 h2 => ⟨_, rfl, ?_⟩) (PyProof.Rows.args_list_sort _)))
  · refine SrtO.pairs_sortableO (s := { s with heap := h'.push (seqObj "list" acc'.toList.toArray 0), toks := tk }) (k := fun u => k (backV u)) (by omega) (fun v hv => ?_) fun o e => ?_
    · obtain ⟨t, rfl⟩ := e2 v hv
      have hm : V.ref t ∈ (ks.map fun x => x.2.1).map V.ref := by rw [e1]; exact List.mem_map.mpr ⟨_, hv, rfl⟩
      obtain ⟨t', e, ht⟩ := hx2 _ hm
      cases e
      obtain ⟨_, its2, r2, o, ho, hc, n, hd⟩ := I1.hok _ _ ht
      obtain ⟨u1, u2, rfl, ri, rj⟩ := vals2 r2
      obtain ⟨t1, rfl⟩ := ri
      obtain ⟨t2, rfl⟩ := rj
      exact ⟨t, o, t1, t2, n, rfl, Heap.get?_push_of_some _ ho, hc, hd⟩
    · have e' := hoL.symm.trans e
      cases e'
      intro c
      exact absurd (Value.type.inj c) (by decide)
  · obtain ⟨e', he'⟩ := PyProof.Rows.sortedHeap_at (vs := acc'.toList) (out := out.toArray) hoL
    have h3 : ∀ u ∈ out, ∃ a, u = Value.ref a := fun u hu => e2 u (h2.perm.mem_iff.mp hu)
    have hb : SrtO.Stb (ltP k) (out.map backV) ((ks.map fun x => x.2.1).map V.ref) := by
      rw [e1]
      exact SrtO.Stb.map (ltP_swo k) backV h2
    refine wpAny_pure ⟨_, rfl, .ref h'.objs.size, upd H h'.objs.size (.lst (out.map backV)), I1.laid (t' := tk) (fun b u e => ?_) (Nat.le_refl _)
      (show ObjOk X.prog X.w _ _ _ (.lst (out.map backV)) from ⟨?_, out, e', vals_back h3, he'⟩), rfl, q _ _ (SrtO.srtd_map h1) hb (I1.hok.fresh (Nat.le_refl _))⟩
    · have hb' : b < h'.objs.size := Heap.lt_size e
      rw [PyProof.Rows.sortedHeap_old (Nat.ne_of_lt hb') (by rw [size_push']; exact Nat.lt_succ_of_lt hb')]
      exact Heap.get?_push_of_some _ e
    · rw [hb.len, List.length_map, List.length_map]
      omega
end
end Kp

set_option Elab.async false
set_option linter.all false
set_option maxRecDepth 100000
namespace Kp
open PySem PySem.Spec PyProof.Rows L2 SlX
def pk (p : Pr) : List L2.Key := [Sum.inl p.1, Sum.inl p.2]
theorem pk_inj {p q : Pr} (h : pk p = pk q) : p = q := by
  obtain ⟨a, b⟩ := p
  obtain ⟨c, d⟩ := q
  simp [pk] at h
  rw [h.1, h.2]
theorem valV_mem {κ : Type} [DecidableEq κ] {kvs : List (κ × V)} {k : κ} (h : k ∈ kvs.map (·.1)) : ∃ kv ∈ kvs, valV kvs k = some kv.2 := by
  obtain ⟨kv, hm, he⟩ := List.mem_map.mp h
  unfold valV
  cases e : kvs.find? fun kv => decide (kv.1 = k) with
  | none =>
    have := List.find?_eq_none.mp e kv hm
    simp [he] at this
  | some kw => exact ⟨kw, List.mem_of_find?_eq_some e, rfl⟩
theorem valV_non {κ : Type} [DecidableEq κ] {kvs : List (κ × V)} {k : κ} (h : k ∉ kvs.map (·.1)) : valV kvs k = none := by
  unfold valV
  cases e : kvs.find? fun kv => decide (kv.1 = k) with
  | none => rfl
  | some kw =>
    have h1 := List.mem_of_find?_eq_some e
    have h2 : kw.1 = k := by simpa using List.find?_some e
    exact absurd (List.mem_map.mpr ⟨kw, h1, h2⟩) h
/-- the values of the dict of what is met: lists of few texts -/
def RowsAt (G : Hp) (kvs : List (List L2.Key × V)) : Prop := ∀ kv ∈ kvs, ∃ l xs, kv.2 = V.ref l ∧ G l = some (.lst xs) ∧ xs.length ≤ kvs.length
theorem RowsAt.up {G G' : Hp} {kvs : List (List L2.Key × V)} (h : RowsAt G kvs) (e : Same G G') : RowsAt G' kvs := fun kv m => by
  obtain ⟨l, xs, a, b, c⟩ := h kv m
  exact ⟨l, xs, a, e _ _ b, c⟩
theorem RowsAt.snoc {G : Hp} {kvs : List (List L2.Key × V)} (h : RowsAt G kvs) {k : List L2.Key} {l : Addr} {xs : List V} (hl : G l = some (.lst xs)) (hx : xs.length ≤ kvs.length + 1) : RowsAt G (kvs ++ [(k, .ref l)]) := fun kv m => by
  rcases List.mem_append.mp m with m | m
  · obtain ⟨l, xs, a, b, c⟩ := h kv m
    exact ⟨l, xs, a, b, by rw [List.length_append]; omega⟩
  · rw [List.mem_singleton.mp m]
    exact ⟨l, xs, rfl, hl, by rw [List.length_append]; exact hx⟩
/-- met([one, other]): a dict whose keys are the pairs met -/
def MetOut (ins : List Str) (r1 r2 : List Row) : Hp → Hp → V → Prop := fun G' H' v => ∃ (d : Addr) (kvs : List (List L2.Key × V)) (vs : List V) (ms : List Pr), v = .ref d ∧ H' d = some (.dT kvs) ∧ kvs.map (·.1) = ms.map pk ∧ ms.Nodup ∧ ∀ q, q ∈ ms ↔ Reach ins r1 r2 q
def spMet (K : PySem.W.Frag) : Sp := fun vs H Q _ => ∃ (l a1 a2 : Addr) (G : Hp) (x1 x2 : List V) (ins : List Str) (r1 r2 : List Row), vs = [.ref l] ∧ Same G H ∧ SqL K H l [.ref a1, .ref a2] ∧ Ru K G a1 x1 ins r1 ∧ Ru K G a2 x2 ins r2 ∧ OkIns ins ∧ Go G H (MetOut ins r1 r2) Q
section
variable {P : Program} {w : World} {K : PySem.W.Frag} {mg : Str → Option Value} {base : Heap}
abbrev s_Lmet : Stmt := topS 35
abbrev N_Lmet : List Str := ["_law_ones", "_law_inputs", "_law_start", "_law_rows", "_law_line", "_law_at", "_law_here", "_law_word", "_law_there", "_law_k"]
theorem sc_Lmet : FnScope N_Lmet ["_law_ones"] (defScope s_Lmet) := ⟨rfl, rfl, rfl, by decide +kernel, rfl, by decide +kernel, by decide +kernel⟩
theorem ok_Lmet {f : Addr} {fd : FuncData} (F : Fun K "_law_met" "_law_met" s_Lmet f fd) (T : Bi mg) : FnOk P w K mg base CX0 1 f fd ["_law_ones"] (spMet K) := by
  refine F.ok sc_Lmet (fun vs H Q E h => ?_) (fun cdv A outer s H vs Q E hr h => ?_)
  · obtain ⟨l, a1, a2, G, x1, x2, ins, r1, r2, rfl, _⟩ := h
    rfl
  · obtain ⟨l, a1, a2, G, x1, x2, ins, r1, r2, rfl, e0, hl, R1, R2, oi, k⟩ := h
    refine ⟨_, (pss_cons (ps_par (i := 1) (j := 2) (by rfl) sc_Lmet.nd rfl rfl (by decide) rfl rfl (pa_cons (pe_callB (call_sortedD rfl) (by rfl) T.b_sorted (by decide +kernel) (pa_cons (pe_ix ix_list (pe_ix ix_list (pv 0) pe_int (fun _ _ => rfl)) pe_int (fun _ _ => rfl)) pa_nil)) (pa_cons (pe_callTy call_tuple_of (by rfl) T.b_tuple (by decide +kernel) (pa_cons (pe_op op_rep (pe_lst (pa_cons pe_int pa_nil)) (pe_callB call_len_seq (by rfl) T.b_len (by decide +kernel) (pa_cons (pv 0) pa_nil))) pa_nil)) pa_nil)) (by rfl))
    (pss_cons (ps_par3 (i := 3) (j := 4) (l := 5) (by rfl) sc_Lmet.nd rfl rfl rfl (by decide) (by decide) (by decide) rfl rfl rfl (pa_cons (pe_disp1T (hu_of hr) (pv 2) (pe_lst pa_nil)) (pa_cons (pe_lst (pa_cons (pv 2) pa_nil)) (pa_cons pe_int pa_nil))) (by rfl))
    (pss_cons (ps_while PassesOwn.never (pt_cmpR op_lt (pv 5) (pe_callB call_len_seq (by rfl) T.b_len (by decide +kernel) (pa_cons (pv 4) pa_nil)) (nomark _))
      (pss_cons (ps_set (i := 6) sc_Lmet.nd rfl (.inr rfl) (pe_ix ix_list (pv 4) (pv 5) (fun _ _ => rfl)))
      (pss_cons (ps_for PassesOwn.never rfl (pi_list (pv 1)) (pg_name (i := 7) sc_Lmet.nd rfl (.inr rfl))
        (pss_cons (ps_set (i := 8) sc_Lmet.nd rfl (.inl rfl) (pe_callTy call_tuple_of (by rfl) T.b_tuple (by decide +kernel) (pa_cons (pe_lc (own := [("_law_k", 9)]) (by rfl) sc_Lmet.nd (pi_range1 (by rfl) T.b_range (pa_cons (pe_callB call_len_seq (by rfl) T.b_len (by decide +kernel) (pa_cons (pv 0) pa_nil)) pa_nil)) (blkOk_by (N := N_Lmet) (sc := defScope s_Lmet) (by decide +kernel)) (fun _ _ _ _ _ => (pg_name (i := 9) sc_Lmet.nd rfl (.inl rfl))) (fun _ _ _ _ _ => pts_nil) (fun _ _ _ _ _ => (pe_ix (ixt_k (K := K)) (pe_dget (hu_of hr) (pe_ix (ixl_k (K := K)) (pe_ix (ixl_k (K := K)) (pv 0) (pv 9) (fun _ _ => rfl)) (pe_ix (ixt_k (K := K)) (pv 6) (pv 9) (fun _ _ => rfl)) (fun _ _ => rfl)) (pv 7) (fun _ _ => rfl)) pe_int (fun _ _ => rfl)))) pa_nil)))
        (pss_one (ps_if (pt_cmp (pc_dnotin (hu_of hr) (pv 8) (pv 3)))
          (pss_cons (ps_dput (hu_of hr) (pv 3) (pv 8) (pe_op op_cat (pe_dget (hu_of hr) (pv 3) (pv 6) (fun _ _ => rfl)) (pe_lst (pa_cons (pv 7) pa_nil))) rfl)
          (pss_one (ps_expr (pe_bm PySem.F.plainAttrs_list PySem.F.slot_list_append PySem.F.type_list_append mt_append (pv 4) (pa_cons (pv 8) pa_nil)))))
          pss_nil))))
      (pss_one (ps_aug (i := 5) sc_Lmet.nd rfl (.inl rfl) pe_int ip_add)))))
    (pss_one (ps_ret (pv 3)))))), ?_⟩
    have sl : 10000 ≤ sizeLine := by decide
    have lt1 := R1.ok.few
    have lt2 := R2.ok.few
    have ilt := oi.few
    have z1 := List.length_pos_iff.mpr R1.ok.ne
    obtain ⟨d0, kv0, row0, at0, _, _, g0, ok0, hd0, hk0, hs0⟩ := R1.row oi.ne (q := 0) (by decide) (by omega)
    have rk := ok0.keys.length_eq
    rw [List.length_map] at rk
    refine ⟨_, rfl, l, _, _, .ref a1, rfl, rfl, hl, rfl, a1, x1, _, .ref d0, rfl, rfl, e0.seq R1.at_, at0, d0, kv0, row0.map (·.1), rfl, .inl (e0 _ _ hd0), by rw [hk0, List.map_map]; rfl, by rw [List.length_map]; omega, fun ys pi py sy npi => ?_⟩
    have npiG := none_of e0 npi
    have q1 : Gr W0 G H (upd G pi (.lst (ys.map V.str))) (upd H pi (.lst (ys.map V.str))) := (Gr.refl e0).add npi npi
    have k1 : upd G pi (.lst (ys.map V.str)) pi = some (.lst (ys.map V.str)) := upd_same
    generalize upd G pi (.lst (ys.map V.str)) = G1 at q1 k1
    generalize upd H pi (.lst (ys.map V.str)) = H1 at q1
    refine ⟨(by show 1 ≤ sizeLine; decide), fun l0 nl0 => ?_⟩
    have q2 := q1.more (same_new (o := .lst [.int 0]) nl0)
    have k2 : upd H1 l0 (.lst [.int 0]) l0 = some (.lst [.int 0]) := upd_same
    generalize upd H1 l0 (.lst [.int 0]) = H2 at q2 k2
    refine ⟨_, rfl, l, _, rfl, .inl (q2.has.seq hl), l0, _, _, rfl, rfl, k2, (by show (-(2 ^ 63) : Int) ≤ 2; decide), (by show (2 : Int) < 2 ^ 63; decide), (by show 1 * 2 ≤ sizeLine; decide), fun l1 nl1 => ?_⟩
    have q3 := q2.more (same_new (o := .lst (List.replicate (([V.ref a1, V.ref a2].length : Nat) : Int).toNat [V.int 0]).flatten) nl1)
    have k3 : upd H2 l1 (.lst (List.replicate (([V.ref a1, V.ref a2].length : Nat) : Int).toNat [V.int 0]).flatten) l1 = some (.lst [.int 0, .int 0]) := upd_same
    generalize upd H2 l1 (.lst (List.replicate (([V.ref a1, V.ref a2].length : Nat) : Int).toNat [V.int 0]).flatten) = H3 at q3 k3
    refine ⟨l1, [.int 0, .int 0], rfl, .inl ⟨SqL.of k3, fun ts nts => ⟨_, _, rfl, fun pd npd => ⟨_, rfl, Nat.zero_le _, fun lv nlv => ?_⟩⟩⟩⟩
    have nts0 := q3.has.free nts
    have q4 := q3.add (o := .tup [.int 0, .int 0]) nts0 nts
    have k4 : upd G1 ts (.tup [.int 0, .int 0]) ts = some (.tup [.int 0, .int 0]) := upd_same
    have k1' : upd G1 ts (.tup [.int 0, .int 0]) pi = some (.lst (ys.map V.str)) := (same_new (none_of q3.fz nts)) _ _ k1
    clear k1 k2 k3 nl0 nl1
    generalize upd G1 ts (.tup [.int 0, .int 0]) = G4 at q4 k4 k1'
    generalize upd H3 ts (.tup [.int 0, .int 0]) = H4 at q4 npd nlv
    have gpd := none_of q4.fz npd
    have q5 : Gr W0 G4 H4 G4 (upd H4 pd (.dT [])) := (Gr.refl q4.fz).chg gpd (.inr npd)
    have k5 : upd H4 pd (.dT []) pd = some (.dT []) := upd_same
    generalize upd H4 pd (.dT []) = H5 at q5 k5 nlv
    have q6 := q5.add (o := .lst []) (q5.has.free nlv) nlv
    have nlG := none_of q5.fz nlv
    have pdlv : pd ≠ lv := ne_of_none k5 nlv
    have k6 : upd H5 lv (.lst []) pd = some (.dT []) := by rw [upd_ne pdlv]; exact k5
    have gpd6 : upd G4 lv (.lst []) pd = none := by rw [upd_ne pdlv]; exact gpd
    have kl6 : upd G4 lv (.lst []) lv = some (.lst []) := upd_same
    have kt6 : upd G4 lv (.lst []) ts = some (.tup [.int 0, .int 0]) := (same_new nlG) _ _ k4
    have ki6 : upd G4 lv (.lst []) pi = some (.lst (ys.map V.str)) := (same_new nlG) _ _ k1'
    generalize upd G4 lv (.lst []) = G6 at q6 gpd6 kl6 kt6 ki6
    generalize upd H5 lv (.lst []) = H6 at q6 k6
    refine ⟨ts, pk (0, 0), rfl, q6.fz _ _ kt6, k6, ?_⟩
    have q7 := q6.chg (o := .dT [(pk (0, 0), .ref lv)]) gpd6 (.inr npd)
    have k7 : upd H6 pd (.dT [(pk (0, 0), .ref lv)]) pd = some (.dT [(pk (0, 0), .ref lv)]) := upd_same
    generalize upd H6 pd (.dT [(pk (0, 0), .ref lv)]) = H7 at q7 k7
    refine ⟨_, rfl, (by show 1 ≤ sizeLine; decide), fun pl npl => ⟨_, _, _, rfl, ?_⟩⟩
    have npl0 := q7.has.free npl
    have pdpl : pd ≠ pl := ne_of_none k7 npl
    have q8 := q7.more (same_new (o := .lst [.ref ts]) npl)
    have k8 : upd H7 pl (.lst [.ref ts]) pl = some (.lst [.ref ts]) := upd_same
    have k8d : upd H7 pl (.lst [.ref ts]) pd = some (.dT [(pk (0, 0), .ref lv)]) := by rw [upd_ne pdpl]; exact k7
    have gpl := none_of q7.fz npl
    generalize upd H7 pl (.lst [.ref ts]) = H8 at q8 k8 k8d
    clear q5 q6 q7 k5 k6 k7
    have bnd : r1.length * r2.length ≤ 63 * 63 := Nat.mul_le_mul (by omega) (by omega)
    have few : ∀ {ms : List Pr} {n : Nat} {ks : List Str}, Bfs ys (nx r1 r2) (Reach ins r1 r2) (fun _ _ => True) ms n ks → ms.length ≤ r1.length * r2.length := fun b => few_pairs b.nd fun q hq => (b.rch q hq).inR R1.ok R2.ok
    have yin : ∀ {k : Str}, k ∈ ys ↔ k ∈ ins := fun {k} => py.mem_iff.trans ok0.keys.mem_iff
    have e4 := q4.has
    have R1' : Ru K G6 a1 x1 ins r1 := R1.up (q4.sub.trans (q8.sub))
    have R2' : Ru K G6 a2 x2 ins r2 := R2.up (q4.sub.trans (q8.sub))
    refine ⟨fun m σ' H' => ∃ (n : Nat) (ms : List Pr) (vs : List V) (kvs : List (List L2.Key × V)) (G' : Hp) (c6 c7 c8 c9 : Option V), m + n = r1.length * r2.length ∧ n ≤ ms.length ∧ σ' = [some (.ref l), some (.ref pi), some (.ref ts), some (.ref pd), some (.ref pl), some (.int n), c6, c7, c8, c9] ∧ Gr W0 G4 H4 G' H' ∧ Same G6 G' ∧ G' pl = none ∧ G' pd = none ∧ H' pl = some (.lst vs) ∧ H' pd = some (.dT kvs) ∧ TupsAt G' vs ms ∧ kvs.map (·.1) = ms.map pk ∧ RowsAt G' kvs ∧ Bfs ys (nx r1 r2) (Reach ins r1 r2) (fun _ _ => True) ms n [], ?_, ?_⟩
    · refine ⟨_, 0, [(0, 0)], [.ref ts], [(pk (0, 0), .ref lv)], G6, none, none, none, none, rfl, by simp, rfl, q8, Same.refl _, gpl, gpd6, k8, k8d, ?_, rfl, ?_, Bfs.zero .start⟩
      · exact TupsAt.nil.snoc (p := (0, 0)) kt6
      · exact RowsAt.snoc (kvs := []) (fun _ h => by cases h) kl6 (by simp)
    · rintro m σ' H' ⟨n, ms, vs, kvs, G', c6, c7, c8, c9, hm, hn, rfl, g, eG6, gpl', gpd', hp, hd, tv, hk, rw', b⟩
      refine ⟨_, rfl, _, rfl, pl, vs, rfl, .inl (SqL.of hp), _, _, rfl, rfl, _, rfl, ite2 (fun c => ?_) fun c => ?_⟩
      · have c' : n < ms.length := by
          have := of_decide_eq_true c
          rw [tv.1] at this
          omega
        have fm := few b
        refine ⟨fun σ' H' => ∃ (ms : List Pr) (vs : List V) (kvs : List (List L2.Key × V)) (G' : Hp) (c6 c7 c8 c9 : Option V), n + 1 ≤ ms.length ∧ σ' = [some (.ref l), some (.ref pi), some (.ref ts), some (.ref pd), some (.ref pl), some (.int (n + 1 : Nat)), c6, c7, c8, c9] ∧ Gr W0 G4 H4 G' H' ∧ Same G6 G' ∧ G' pl = none ∧ G' pd = none ∧ H' pl = some (.lst vs) ∧ H' pd = some (.dT kvs) ∧ TupsAt G' vs ms ∧ kvs.map (·.1) = ms.map pk ∧ RowsAt G' kvs ∧ Bfs ys (nx r1 r2) (Reach ins r1 r2) (fun _ _ => True) ms (n + 1) [], ?_, ?_⟩
        · rintro σ' H' ⟨ms, vs, kvs, G', c6, c7, c8, c9, r⟩
          exact ⟨m - 1, by omega, n + 1, ms, vs, kvs, G', c6, c7, c8, c9, by omega, r⟩
        obtain ⟨q, hq⟩ : ∃ q, ms[n]? = some q := ⟨ms[n], List.getElem?_eq_getElem c'⟩
        obtain ⟨tq, hv, ht⟩ := tv.get hq
        have rq := b.rch q (List.mem_of_getElem? hq)
        have inq := rq.inR R1.ok R2.ok
        refine ⟨_, rfl, _, rfl, pl, vs, _, .ref tq, rfl, rfl, SqL.of hp, at_of rfl hv, ?_⟩
        have hpi := g.fz _ _ (eG6 _ _ ki6)
        refine ⟨_, rfl, pi, rfl, ⟨_, SqL.of hpi⟩, ?_⟩
        refine for_list (xs := ys.map V.str) (fun i σ' H' => ∃ (ms : List Pr) (vs : List V) (kvs : List (List L2.Key × V)) (G' : Hp) (c7 c8 c9 : Option V), n < ms.length ∧ ms[n]? = some q ∧ σ' = [some (.ref l), some (.ref pi), some (.ref ts), some (.ref pd), some (.ref pl), some (.int n), some (.ref tq), c7, c8, c9] ∧ Gr W0 G4 H4 G' H' ∧ Same G6 G' ∧ G' pl = none ∧ G' pd = none ∧ H' pl = some (.lst vs) ∧ H' pd = some (.dT kvs) ∧ TupsAt G' vs ms ∧ kvs.map (·.1) = ms.map pk ∧ RowsAt G' kvs ∧ G' tq = some (.tup [.int q.1, .int q.2]) ∧ Bfs ys (nx r1 r2) (Reach ins r1 r2) (fun _ _ => True) ms n (ys.take i))
          ⟨ms, vs, kvs, G', c7, c8, c9, c', hq, rfl, g, eG6, gpl', gpd', hp, hd, tv, hk, rw', ht, b⟩ ?_ ?_ ?_
        · rintro i σ' H' _ ⟨_, _, _, G', _, _, _, _, _, _, g, eG6, _⟩
          exact SqL.of (g.fz _ _ (eG6 _ _ ki6))
        · clear tv hk rw' ht b g eG6 gpl' gpd' hp hd fm hv hpi c' c hq
          rintro i x σ' H' hx ⟨ms, vs, kvs, G', c7, c8, c9, c', hq, rfl, g, eG6, gpl', gpd', hp, hd, tv, hk, rw', ht, b⟩
          obtain ⟨k, hky, rfl⟩ := at_map hx
          have kin := yin.mp (List.mem_of_getElem? hky)
          have tk : ys.take (i + 1) = ys.take i ++ [k] := by rw [List.take_succ, hky]; rfl
          have rn := rq.step kin
          have R1x := R1'.up (eG6.trans g.fz)
          have R2x := R2'.up (eG6.trans g.fz)
          have fm := few b
          refine ⟨_, rfl, l, _, rfl, .inl ((q4.has.trans g.has).seq (K := K) hl), ?_⟩
          refine ⟨2, rfl, by decide, by decide, fun D nD => ?_⟩
          obtain ⟨d1, kv1, row1, at1, _, _, g1, ok1, hd1, hk1, hs1⟩ := R1'.row oi.ne inq.1.1 inq.1.2
          obtain ⟨d2, kv2, row2, at2, _, _, g2, ok2, hd2, hk2, hs2⟩ := R2'.row oi.ne inq.2.1 inq.2.2
          obtain ⟨t1, v1, s1⟩ := R1'.stp g1 ok1 hk1 hs1 kin
          obtain ⟨t2, v2, s2⟩ := R2'.stp g2 ok2 hk2 hs2 kin
          have up5 : ∀ {H5 : Hp}, Same H' H5 → Same G6 H5 := fun e => (eG6.trans g.fz).trans e
          refine lc_range (lo := 0) (n := 2) (fun i H5 => Same H' H5 ∧ H5 D = some (.lst ((([(nx r1 r2 q k).1, (nx r1 r2 q k).2] : List Int).take i).map V.int))) ⟨same_new nD, upd_same⟩ ?_ ?_
          · rintro i H5 hi ⟨e5, d5⟩
            have hl5 : SqL K H5 l [.ref a1, .ref a2] := (q4.has.trans (g.has.trans e5)).seq hl
            have ht5 : SqT K H5 tq [.int q.1, .int q.2] := SqT.of (e5 _ _ (g.fz _ _ ht))
            obtain rfl | rfl : i = 0 ∨ i = 1 := by omega
            · refine ⟨rfl, _, rfl, _, rfl, l, _, _, .ref a1, rfl, rfl, hl5, rfl, _, rfl, _, rfl, tq, _, _, .int q.1, rfl, rfl, ht5, rfl, a1, x1, _, .ref d1, rfl, rfl, (up5 e5).seq R1'.at_, at1, _, rfl, d1, .ref t1, rfl, ?_, t1, _, _, .int _, rfl, rfl, sqT_up (up5 e5) s1, rfl, ?_⟩
              · rw [← v1]; exact DGet.k (k := Sum.inr k) (up5 e5 _ _ hd1)
              · exact ⟨_, d5, by show 0 < sizeLine; decide, same_chg e5 nD, upd_same⟩
            · refine ⟨rfl, _, rfl, _, rfl, l, _, _, .ref a2, rfl, rfl, hl5, rfl, _, rfl, _, rfl, tq, _, _, .int q.2, rfl, rfl, ht5, rfl, a2, x2, _, .ref d2, rfl, rfl, (up5 e5).seq R2'.at_, at2, _, rfl, d2, .ref t2, rfl, ?_, t2, _, _, .int _, rfl, rfl, sqT_up (up5 e5) s2, rfl, ?_⟩
              · rw [← v2]; exact DGet.k (k := Sum.inr k) (up5 e5 _ _ hd2)
              · exact ⟨_, d5, by show 1 < sizeLine; decide, same_chg e5 nD, upd_same⟩
          · rintro H5 ⟨e5, d5⟩
            refine ⟨D, _, rfl, .inl ⟨SqL.of d5, fun t nt => ?_⟩⟩
            have g5 := g.more e5
            have hp5 := e5 _ _ hp
            have hd5 := e5 _ _ hd
            have g6 := g5.add (o := .tup ((([(nx r1 r2 q k).1, (nx r1 r2 q k).2] : List Int).take 2).map V.int)) (g5.has.free nt) nt
            have gt := none_of g5.fz nt
            have pdt : pd ≠ t := ne_of_none hd5 nt
            have plt : pl ≠ t := ne_of_none hp5 nt
            have sG := same_new (o := .tup ((([(nx r1 r2 q k).1, (nx r1 r2 q k).2] : List Int).take 2).map V.int)) gt
            have hp6 : upd H5 t (.tup ((([(nx r1 r2 q k).1, (nx r1 r2 q k).2] : List Int).take 2).map V.int)) pl = some (.lst vs) := by rw [upd_ne plt]; exact hp5
            have hd6 : upd H5 t (.tup ((([(nx r1 r2 q k).1, (nx r1 r2 q k).2] : List Int).take 2).map V.int)) pd = some (.dT kvs) := by rw [upd_ne pdt]; exact hd5
            have gpl6 : upd G' t (.tup ((([(nx r1 r2 q k).1, (nx r1 r2 q k).2] : List Int).take 2).map V.int)) pl = none := by rw [upd_ne plt]; exact gpl'
            have gpd6 : upd G' t (.tup ((([(nx r1 r2 q k).1, (nx r1 r2 q k).2] : List Int).take 2).map V.int)) pd = none := by rw [upd_ne pdt]; exact gpd'
            have kt : upd G' t (.tup ((([(nx r1 r2 q k).1, (nx r1 r2 q k).2] : List Int).take 2).map V.int)) t = some (.tup ((([(nx r1 r2 q k).1, (nx r1 r2 q k).2] : List Int).take 2).map V.int)) := upd_same
            have tv6 := tv.up sG
            have rw6 := rw'.up sG
            have ht6 := sG _ _ ht
            have eG66 := eG6.trans sG
            generalize upd G' t (.tup ((([(nx r1 r2 q k).1, (nx r1 r2 q k).2] : List Int).take 2).map V.int)) = G2 at g6 gpl6 gpd6 kt tv6 rw6 ht6 eG66
            generalize upd H5 t (.tup ((([(nx r1 r2 q k).1, (nx r1 r2 q k).2] : List Int).take 2).map V.int)) = H7 at g6 hp6 hd6
            have hkt : H7 t = some (.tup ((pk (nx r1 r2 q k)).map kV)) := g6.fz _ _ kt
            have hkq : H7 tq = some (.tup ((pk q).map kV)) := g6.fz _ _ ht6
            refine ⟨_, rfl, _, rfl, pd, _, rfl, DGet.t hd6 hkt, _, rfl, ?_⟩
            have kl : kvs.length = ms.length := by
              have := congrArg List.length hk
              rwa [List.length_map, List.length_map] at this
            by_cases nm : nx r1 r2 q k ∈ ms
            · obtain ⟨kv, _, ev⟩ := valV_mem (kvs := kvs) (k := pk (nx r1 r2 q k)) (by rw [hk]; exact List.mem_map.mpr ⟨_, nm, rfl⟩)
              rw [ev]
              exact ⟨ms, vs, kvs, G2, _, _, _, c', hq, rfl, g6, eG66, gpl6, gpd6, hp6, hd6, tv6, hk, rw6, ht6, by rw [tk]; exact b.see hq nm trivial⟩
            · have nk : pk (nx r1 r2 q k) ∉ kvs.map (·.1) := by
                rw [hk]
                intro h
                obtain ⟨p', hp', e⟩ := List.mem_map.mp h
                rw [pk_inj e] at hp'
                exact nm hp'
              rw [valV_non nk]
              obtain ⟨kv, hkv, ev⟩ := valV_mem (kvs := kvs) (k := pk q) (by rw [hk]; exact List.mem_map.mpr ⟨_, List.mem_of_getElem? hq, rfl⟩)
              obtain ⟨lo, xs, elo, hlo, hxs⟩ := rw6 kv hkv
              have b2 := b.new hq nm rn trivial
              have fb := few b2
              simp at fb
              refine ⟨_, rfl, _, rfl, pd, .ref lo, rfl, by rw [← elo, ← ev]; exact DGet.t hd6 hkq, _, rfl, (by show 1 ≤ sizeLine; decide), fun lw nlw => ?_⟩
              have hlo7 := g6.fz _ _ hlo
              have lolw : lo ≠ lw := ne_of_none hlo7 nlw
              refine ⟨lo, lw, _, _, rfl, rfl, by rw [upd_ne lolw]; exact hlo7, upd_same, ?_, fun ln nln => ?_⟩
              · show xs.length + 1 ≤ sizeLine
                omega
              · have g7 := g6.more (same_new (o := .lst [.str k]) nlw)
                have hp7 := (same_new (o := .lst [.str k]) nlw) _ _ hp6
                have hd7 := (same_new (o := .lst [.str k]) nlw) _ _ hd6
                generalize upd H7 lw (.lst [.str k]) = H8 at g7 hp7 hd7 nln
                have g8 := g7.add (o := .lst (xs ++ [.str k])) (g7.has.free nln) nln
                have gln := none_of g7.fz nln
                have sL := same_new (o := .lst (xs ++ [.str k])) gln
                have pdln : pd ≠ ln := ne_of_none hd7 nln
                have plln : pl ≠ ln := ne_of_none hp7 nln
                have hp8 : upd H8 ln (.lst (xs ++ [.str k])) pl = some (.lst vs) := by rw [upd_ne plln]; exact hp7
                have hd8 : upd H8 ln (.lst (xs ++ [.str k])) pd = some (.dT kvs) := by rw [upd_ne pdln]; exact hd7
                have gpl8 : upd G2 ln (.lst (xs ++ [.str k])) pl = none := by rw [upd_ne plln]; exact gpl6
                have gpd8 : upd G2 ln (.lst (xs ++ [.str k])) pd = none := by rw [upd_ne pdln]; exact gpd6
                have kln : upd G2 ln (.lst (xs ++ [.str k])) ln = some (.lst (xs ++ [.str k])) := upd_same
                have kt8 := sL _ _ kt
                have tv8 := tv6.up sL
                have rw8 := rw6.up sL
                have ht8 := sL _ _ ht6
                have eG8 := eG66.trans sL
                generalize upd G2 ln (.lst (xs ++ [.str k])) = G8 at g8 gpl8 gpd8 kln kt8 tv8 rw8 ht8 eG8
                generalize upd H8 ln (.lst (xs ++ [.str k])) = H9 at g8 hp8 hd8
                have hkt9 : H9 t = some (.tup ((pk (nx r1 r2 q k)).map kV)) := g8.fz _ _ kt8
                have pn := L2.putK_new (.ref ln) (valV_non nk)
                refine ⟨_, rfl, _, rfl, pd, _, rfl, DPut.t hd8 hkt9 (by omega), ?_⟩
                rw [pn]
                have g9 := g8.chg (o := .dT (kvs ++ [(pk (nx r1 r2 q k), .ref ln)])) gpd8 (.inr npd)
                have hp9 : upd H9 pd (.dT (kvs ++ [(pk (nx r1 r2 q k), .ref ln)])) pl = some (.lst vs) := by rw [upd_ne pdpl.symm]; exact hp8
                refine ⟨_, rfl, .inl ⟨rfl, _, SqL.of hp9⟩, _, rfl, pl, vs, _, rfl, rfl, hp9, by rw [tv.1]; omega, ?_⟩
                refine ⟨ms ++ [nx r1 r2 q k], vs ++ [.ref t], _, G8, _, _, _, by simp; omega, ?_, rfl, g9.chg gpl8 (.inr npl0), eG8, gpl8, gpd8, upd_same, by rw [upd_ne pdpl]; exact upd_same, tv8.snoc kt8, by rw [List.map_append, List.map_append, hk]; rfl, rw8.snoc kln (by rw [List.length_append]; show xs.length + 1 ≤ _; omega), ht8, by rw [tk]; exact b2⟩
                rw [List.getElem?_append_left c']
                exact hq
        · rintro σ' H' ⟨ms, vs, kvs, G', c7, c8, c9, c', hq, rfl, g, eG6, gpl', gpd', hp, hd, tv, hk, rw', ht, b⟩
          rw [List.length_map, List.take_length] at b
          refine ⟨_, rfl, _, _, rfl, rfl, ?_⟩
          exact ⟨ms, vs, kvs, G', _, _, _, _, c', rfl, g, eG6, gpl', gpd', hp, hd, tv, hk, rw', b.next (List.getElem?_eq_getElem c')⟩
      · have c' : ms.length ≤ n := by
          have z := c
          simp at z
          rw [tv.1] at z
          exact z
        have cl := b.closed c'
        refine ⟨_, rfl, k _ _ _ (q4.trans0 g) ⟨pd, kvs, vs, ms, rfl, hd, hk, b.nd, fun q => ⟨b.rch q, fun h => reach_mem b.st (fun q hq k hk => (cl q hq k (yin.mpr hk)).1) h⟩⟩⟩
end
end Kp

set_option Elab.async false
set_option linter.all false
set_option maxRecDepth 100000
namespace Kp
open PySem PySem.Spec PyProof.Rows L2 SlX
/-- data that == can walk: at most k deep -/
structure okM (k : Nat) (d : PyData) : Prop where
  lay : PyData.canLay0 d = true
  dp : PyData.depth d ≤ k
  pl : plain d = true
def okMs (k : Nat) (ds : List PyData) : Prop := ∀ d ∈ ds, okM k d
theorem okM.up {k m : Nat} {d : PyData} (h : okM k d) (e : k ≤ m) : okM m d := ⟨h.lay, Nat.le_trans h.dp e, h.pl⟩
theorem okM_int (k : Nat) (i : Int) : okM k (.int i) := ⟨by simp [PyData.canLay0], by simp [PyData.depth], rfl⟩
theorem okM_str (k : Nat) {x : Str} (h : PyData.strOk x = true) : okM k (.str x) := ⟨by simp [PyData.canLay0, h], by simp [PyData.depth], rfl⟩
theorem okMs.lay {k : Nat} : ∀ {ds : List PyData}, okMs k ds → PyData.canLayAll0 ds = true
  | [], _ => by simp [PyData.canLayAll0]
  | d :: ds, h => by
    simp only [PyData.canLayAll0, (h d (by simp)).lay, Bool.true_and]
    exact okMs.lay (k := k) fun e m => h e (List.mem_cons_of_mem _ m)
theorem okMs.dp {k : Nat} : ∀ {ds : List PyData}, okMs k ds → PyData.depthAll ds ≤ k
  | [], _ => by simp [PyData.depthAll]
  | d :: ds, h => by
    have a := (h d (by simp)).dp
    have b := okMs.dp (k := k) (ds := ds) fun e m => h e (List.mem_cons_of_mem _ m)
    simp only [PyData.depthAll]
    omega
theorem okMs.pl {k : Nat} : ∀ {ds : List PyData}, okMs k ds → plains ds = true
  | [], _ => rfl
  | d :: ds, h => by
    have a := (h d (by simp)).pl
    have b := okMs.pl (k := k) (ds := ds) fun e m => h e (List.mem_cons_of_mem _ m)
    show (plain d && plains ds) = true
    rw [a, b]; rfl
theorem okM_list {k : Nat} {ds : List PyData} (h : okMs k ds) : okM (k + 1) (.list ds) :=
  ⟨by simp only [PyData.canLay0]; exact h.lay, by have := h.dp; simp only [PyData.depth]; omega, h.pl⟩
theorem okM.shaped {k : Nat} {d : PyData} (h : okM k d) (e : k ≤ 64) : SeqAt.shaped d = true := by
  unfold SeqAt.shaped
  have := h.dp
  simp only [h.lay, Bool.true_and, decide_eq_true_eq]
  omega
theorem okMs_map {α : Type} {k : Nat} {l : List α} {f : α → PyData} (h : ∀ x ∈ l, okM k (f x)) : okMs k (l.map f) := fun d m => by
  obtain ⟨x, hx, rfl⟩ := List.mem_map.mp m
  exact h x hx
/-- the first place of what is there -/
theorem first_of {ds : List PyData} {d : PyData} (h : (ds.any fun z => PyData.eqv z d) = true) : ∃ (j : Nat) (z : PyData), ds[j]? = some z ∧ PyData.eqv z d = true ∧ ∀ (m : Nat) (z' : PyData), m < j → ds[m]? = some z' → PyData.eqv z' d = false := by
  induction ds with
  | nil => simp at h
  | cons e ds ih =>
    by_cases c : PyData.eqv e d = true
    · exact ⟨0, e, rfl, c, fun m _ hm => by omega⟩
    · have c' : PyData.eqv e d = false := by simpa using c
      rw [List.any_cons, c', Bool.false_or] at h
      obtain ⟨j, z, h1, h2, h3⟩ := ih h
      refine ⟨j + 1, z, h1, h2, fun m z' hm hz => ?_⟩
      cases m with
      | zero => cases hz; exact c'
      | succ m => exact h3 m z' (by omega) hz
/-- few states, all different -/
theorem few_ints {n : Nat} {qs : List Int} (nd : qs.Nodup) (h : ∀ q ∈ qs, 0 ≤ q ∧ q < n) : qs.length ≤ n := by
  have : qs.length ≤ ((List.range n).map fun (i : Nat) => (i : Int)).length := nodup_le nd fun q hq => by
    have := h q hq
    exact List.mem_map.mpr ⟨q.toNat, List.mem_range.mpr (by omega), by omega⟩
  rwa [List.length_map, List.length_range] at this
/-- the mark of a state -/
def mk (js : List Int) (q : Int) : Int := js.getD q.toNat 0
theorem mk_at {js : List Int} {q : Int} (h0 : 0 ≤ q) (h1 : q < js.length) : js[q.toNat]? = some (mk js q) := by
  unfold mk
  have lt : q.toNat < js.length := by omega
  rw [List.getD_eq_getElem?_getD, List.getElem?_eq_getElem lt]; rfl
end Kp

set_option Elab.async false
set_option linter.all false
set_option maxRecDepth 100000
namespace Kp
open PySem PySem.Spec PyProof.Rows L2 SlX
theorem for_rangeB {lo : Int} {n : Nat} {g : TG} {tb : TS} {D : Ends} {σ : L2.St} {H : Hp} (J : L2.St → Hp → Prop) (hJ : ∀ σ H, J σ H → D.nx σ H) (Pv : Nat → L2.St → Hp → Prop) (h0 : Pv 0 σ H)
    (hs : (∀ σ H, J σ H → D.nx σ H) → ∀ i σ H, i < n → Pv i σ H → g (.int (lo + i)) σ H fun σ2 H2 => tb { D with nx := Pv (i + 1), ct := Pv (i + 1), bk := D.nx } σ2 H2) (hd : ∀ σ H, Pv n σ H → J σ H) :
    ∃ W : Nat → Nat → L2.St → Hp → Prop, (∃ m, W 0 m σ H) ∧ ∀ i m σ H, W i m σ H →
      ((Itr lo n).stop i H ∧ D.nx σ H) ∨ ((Itr lo n).go i H ∧ ∃ N : L2.St → Hp → Prop, (∀ σ' H', N σ' H' → ∃ m', m' < m ∧ W (i + 1) m' σ' H') ∧ ∀ x H', (Itr lo n).yld i H x H' → g x σ H' fun σ2 H2 => tb { D with nx := N, ct := N, bk := D.nx } σ2 H2) :=
  for_range Pv h0 (hs hJ) fun σ H h => hJ σ H (hd σ H h)
theorem idxD_k {X : Cx} {K : PySem.W.Frag} (hu : X.A.units + 65 < cLine) (h : X.K = K := by rfl) : MtR X "list.index" (rIndexD K) := by subst h; exact mt_indexD hu
theorem pe_bmk {X : Cx} {K : PySem.W.Frag} {T id : String} {name : Str} {r : V → List V → Hp → VK → Prop} {o e : Expr} {es : List Expr} {apos cpos : Pos} {to : TE} {t : TA} (pa : PlainAttrs T) (slot : Slot T name id) (hty : typeOf (.builtin id) = pure (.type "method_descriptor")) (hm : MtR X id r) (ho : PE X o to) (ha : PA X (e :: es) t) (hK : X.K = K := by rfl)
    (hbase : attributeBase o name X.env (eval o X.env) = eval o X.env := by rfl)
    (hfew : ((backTo cpos (starEach (e :: es) X.env)).all (fun x => !x.1) && (backToKw cpos (keywordEach [] X.env)).all (fun x => x.1.isSome)
      && decide ((e :: es).length + ([] : List Keyword).length + (if ([] : List Keyword).isEmpty then 0 else 1) < 30)) = true := by rfl)
    (hline : (apos.endLine == cpos.line) = true := by rfl) (hs : starEach (e :: es) X.env = (false, eval e X.env) :: starEach es X.env := by rfl) (hplain : (backTo cpos (starEach es X.env)).any (·.1) = false := by rfl) :
    PE X (.Call (.Attribute o name apos) (e :: es) [] cpos) (tBM K T r to t) := by
  subst hK
  exact pe_bm pa slot hty hm ho ha hbase hfew hline hs hplain
theorem eqvRefl {d : PyData} (h : PyData.canLay0 d = true) : PyData.eqv d d = true := SeqAt.eqv_refl d h
theorem nodup_of_map {α β : Type} {f : α → β} : ∀ {l : List α}, (l.map f).Nodup → l.Nodup
  | [], _ => List.nodup_nil
  | x :: l, h => by
    rw [List.map_cons, List.nodup_cons] at h
    rw [List.nodup_cons]
    exact ⟨fun m => h.1 (List.mem_map.mpr ⟨x, m, rfl⟩), nodup_of_map h.2⟩
def spFewest (K : PySem.W.Frag) : Sp := fun vs H Q _ => ∃ (a : Addr) (G : Hp) (xs : List V) (ins : List Str) (rs : List Row), vs = [.ref a] ∧ Same G H ∧ Ru K G a xs ins rs ∧ OkIns ins ∧ Go G H (fun G' _ v => ∃ rs', DD K G' v (rulesD rs') ∧ OkRules ins rs' ∧ rs'.length ≤ rs.length) Q
section
variable {P : Program} {w : World} {K : PySem.W.Frag} {mg : Str → Option Value} {base : Heap}
abbrev s_Lfewest : Stmt := topS 36
abbrev N_Lfewest : List Str := ["_law_rules_here", "_law_inputs", "_law_size", "_law_word", "_law_mark", "_law_turn", "_law_rows", "_law_kinds", "_law_row", "_law_line", "_law_found", "_law_there", "_law_out", "_law_same", "_law_k"]
theorem sc_Lfewest : FnScope N_Lfewest ["_law_rules_here"] (defScope s_Lfewest) := ⟨rfl, rfl, rfl, by decide +kernel, rfl, by decide +kernel, by decide +kernel⟩
theorem ok_Lfewest {f : Addr} {fd : FuncData} (F : Fun K "_law_fewest" "_law_fewest" s_Lfewest f fd) (T : Bi mg) : FnOk P w K mg base CX0 1 f fd ["_law_rules_here"] (spFewest K) := by
  refine F.ok sc_Lfewest (fun vs H Q E h => ?_) (fun cdv A outer s H vs Q E hr h => ?_)
  · obtain ⟨a, G, xs, ins, rs, rfl, _⟩ := h
    rfl
  · obtain ⟨a, G, xs, ins, rs, rfl, e0, R, oi, k⟩ := h
    refine ⟨_, (pss_cons (ps_asg (pe_tup (pa_cons (pe_callB (call_sortedD rfl) (by rfl) T.b_sorted (by decide +kernel) (pa_cons (pe_ix ix_list (pv 0) pe_int (fun _ _ => rfl)) pa_nil)) (pa_cons pe_int pa_nil))) (pg_tup rfl (pgs_cons (pg_name (i := 1) sc_Lfewest.nd rfl (.inr rfl)) (pgs_cons (pg_name (i := 2) sc_Lfewest.nd rfl (.inl rfl)) pgs_nil))))
    (pss_cons (ps_set (i := 4) sc_Lfewest.nd rfl (.inr rfl) (pe_lc (own := [("_law_k", 14)]) (by rfl) sc_Lfewest.nd (pi_range1 (by rfl) T.b_range (pa_cons (pe_callB call_len_seq (by rfl) T.b_len (by decide +kernel) (pa_cons (pv 0) pa_nil)) pa_nil)) (blkOk_by (N := N_Lfewest) (sc := defScope s_Lfewest) (by decide +kernel)) (fun _ _ _ _ _ => (pg_name (i := 14) sc_Lfewest.nd rfl (.inr rfl))) (fun _ _ _ _ _ => pts_nil) (fun _ _ _ _ _ => (pe_lc (own := [("_law_word", 3)]) (by rfl) sc_Lfewest.nd (pi_listk (K := K) (pv 1)) (blkOk_by (by kernel_rfl)) (fun _ _ _ _ _ => (pg_name (i := 3) sc_Lfewest.nd rfl (.inl rfl))) (fun _ _ _ _ _ => pts_nil) (fun _ _ _ _ _ => (pe_ix (ixt_k (K := K)) (pe_dget (hu_of hr) (pe_ix (ixl_k (K := K)) (pv 0) (pv 14) (fun _ _ => rfl)) (pv 3) (fun _ _ => rfl)) pe_int (fun _ _ => rfl)))))))
    (pss_cons (ps_for PassesOwn.never rfl (pi_range1 (by rfl) T.b_range (pa_cons (pe_op op_add (pe_callB call_len_seq (by rfl) T.b_len (by decide +kernel) (pa_cons (pv 0) pa_nil)) pe_int) pa_nil)) (pg_name (i := 5) sc_Lfewest.nd rfl (.inl rfl))
      (pss_cons (ps_asg (pe_tup (pa_cons (pe_lc (own := [("_law_k", 14)]) (by rfl) sc_Lfewest.nd (pi_range1 (by rfl) T.b_range (pa_cons (pe_callB call_len_seq (by rfl) T.b_len (by decide +kernel) (pa_cons (pv 0) pa_nil)) pa_nil)) (blkOk_by (N := N_Lfewest) (sc := defScope s_Lfewest) (by decide +kernel)) (fun _ _ _ _ _ => (pg_name (i := 14) sc_Lfewest.nd rfl (.inr rfl))) (fun _ _ _ _ _ => pts_nil) (fun _ _ _ _ _ => (pe_lst (pa_cons (pe_ix (ixl_k (K := K)) (pv 4) (pv 14) (fun _ _ => rfl)) (pa_cons (pe_lc (own := [("_law_word", 3)]) (by rfl) sc_Lfewest.nd (pi_listk (K := K) (pv 1)) (blkOk_by (by kernel_rfl)) (fun _ _ _ _ _ => (pg_name (i := 3) sc_Lfewest.nd rfl (.inl rfl))) (fun _ _ _ _ _ => pts_nil) (fun _ _ _ _ _ => (pe_ix (ixl_k (K := K)) (pv 4) (pe_ix (ixt_k (K := K)) (pe_dget (hu_of hr) (pe_ix (ixl_k (K := K)) (pv 0) (pv 14) (fun _ _ => rfl)) (pv 3) (fun _ _ => rfl)) pe_int (fun _ _ => rfl)) (fun _ _ => rfl)))) pa_nil))))) (pa_cons (pe_lst pa_nil) pa_nil))) (pg_tup rfl (pgs_cons (pg_name (i := 6) sc_Lfewest.nd rfl (.inl rfl)) (pgs_cons (pg_name (i := 7) sc_Lfewest.nd rfl (.inr rfl)) pgs_nil))))
      (pss_cons (ps_for PassesOwn.never rfl (pi_list (pv 6)) (pg_name (i := 8) sc_Lfewest.nd rfl (.inl rfl))
        (pss_one (ps_if (pt_cmpR (op_notInD (Room.u65 hr)) (pv 8) (pv 7) rfl)
          (pss_one (ps_expr (pe_bm PySem.F.plainAttrs_list PySem.F.slot_list_append PySem.F.type_list_append mt_append (pv 7) (pa_cons (pv 8) pa_nil))))
          pss_nil)))
      (pss_cons (ps_set (i := 4) sc_Lfewest.nd rfl (.inr rfl) (pe_lc (own := [("_law_row", 8)]) (by rfl) sc_Lfewest.nd (pi_list (pv 6)) (blkOk_by (N := N_Lfewest) (sc := defScope s_Lfewest) (by decide +kernel)) (fun _ _ _ _ _ => (pg_name (i := 8) sc_Lfewest.nd rfl (.inl rfl))) (fun _ _ _ _ _ => pts_nil) (fun _ _ _ _ _ => (pe_bmk (K := K) PySem.F.plainAttrs_list PySem.F.slot_list_index PySem.F.type_list_index (idxD_k (K := K) (Room.u65 hr)) (pv 7) (pa_cons (pv 8) pa_nil)))))
      (pss_cons (ps_if (pt_cmpR op_eq (pe_callB call_len_seq (by rfl) T.b_len (by decide +kernel) (pa_cons (pv 7) pa_nil)) (pv 2) (nomark _))
        (pss_one ps_break)
        pss_nil)
      (pss_one (ps_set (i := 2) sc_Lfewest.nd rfl (.inl rfl) (pe_callB call_len_seq (by rfl) T.b_len (by decide +kernel) (pa_cons (pv 7) pa_nil)))))))))
    (pss_cons (ps_asg (pe_tup (pa_cons (pe_lst (pa_cons pe_int pa_nil)) (pa_cons (pe_lst pa_nil) pa_nil))) (pg_tup rfl (pgs_cons (pg_name (i := 9) sc_Lfewest.nd rfl (.inr rfl)) (pgs_cons (pg_name (i := 10) sc_Lfewest.nd rfl (.inl rfl)) pgs_nil))))
    (pss_cons (ps_while PassesOwn.never (pt_cmpR op_lt (pe_callB call_len_seq (by rfl) T.b_len (by decide +kernel) (pa_cons (pv 10) pa_nil)) (pe_callB call_len_seq (by rfl) T.b_len (by decide +kernel) (pa_cons (pv 9) pa_nil)) (nomark _))
      (pss_cons (ps_set (i := 8) sc_Lfewest.nd rfl (.inl rfl) pe_dnewK)
      (pss_cons (ps_for PassesOwn.never rfl (pi_list (pv 1)) (pg_name (i := 3) sc_Lfewest.nd rfl (.inl rfl))
        (pss_cons (ps_asg (pe_dget (hu_of hr) (pe_ix ix_list (pv 0) (pe_ix ix_list (pv 9) (pe_callB call_len_seq (by rfl) T.b_len (by decide +kernel) (pa_cons (pv 10) pa_nil)) (fun _ _ => rfl)) (fun _ _ => rfl)) (pv 3) (fun _ _ => rfl)) (pg_tup rfl (pgs_cons (pg_name (i := 11) sc_Lfewest.nd rfl (.inr rfl)) (pgs_cons (pg_name (i := 12) sc_Lfewest.nd rfl (.inl rfl)) pgs_nil))))
        (pss_cons (ps_setLc (i := 13) (own := [("_law_k", 14)]) (by rfl) sc_Lfewest.nd rfl rfl (sw_true rfl rfl rfl (by decide +kernel)) (pi_range1 (by rfl) T.b_range (pa_cons (pe_callB call_len_seq (by rfl) T.b_len (by decide +kernel) (pa_cons (pv 9) pa_nil)) pa_nil)) (blkOk_by (N := N_Lfewest) (sc := defScope s_Lfewest) (by decide +kernel)) (fun _ _ _ _ _ => (pg_name (i := 14) sc_Lfewest.nd rfl (.inl rfl))) (fun _ _ _ _ _ => (pts_one (pt_cmpR op_eq (pe_ix (ixl_k (K := K)) (pv 4) (pe_ix (ixl_k (K := K)) (pv 9) (pv 14) (fun _ _ => rfl)) (fun _ _ => rfl)) (pe_ix (ixl_k (K := K)) (pv 4) (pv 11) (fun _ _ => rfl)) (nomark _)))) (fun _ _ _ _ _ => (pv 14)))
        (pss_cons (ps_if (pt_cmpR (op_eqD (Nat.lt_of_succ_lt (Room.u65 hr))) (pv 13) (pe_lst pa_nil) (nomark _))
          (pss_one (ps_expr (pe_bm PySem.F.plainAttrs_list PySem.F.slot_list_append PySem.F.type_list_append mt_append (pv 9) (pa_cons (pv 11) pa_nil))))
          pss_nil)
        (pss_one (ps_dput (hu_of hr) (pv 8) (pv 3) (pe_tup (pa_cons (pe_ix ix_list (pe_op op_cat (pv 13) (pe_lst (pa_cons (pe_op op_sub (pe_callB call_len_seq (by rfl) T.b_len (by decide +kernel) (pa_cons (pv 9) pa_nil)) pe_int) pa_nil))) pe_int (fun _ _ => rfl)) (pa_cons (pv 12) pa_nil))) rfl))))))
      (pss_one (ps_expr (pe_bm PySem.F.plainAttrs_list PySem.F.slot_list_append PySem.F.type_list_append mt_append (pv 10) (pa_cons (pv 8) pa_nil)))))))
    (pss_one (ps_ret (pv 10)))))))), ?_⟩
    have sl : 10000 ≤ sizeLine := by decide
    have rlt := R.ok.few
    have ilt := oi.few
    have z1 := List.length_pos_iff.mpr R.ok.ne
    have hn := R.dd.length
    rw [List.length_map] at hn
    obtain ⟨d0, kv0, row0, at0, _, _, g0, ok0, hd0, hk0, hs0⟩ := R.row oi.ne (q := 0) (by decide) (by omega)
    have rk := ok0.keys.length_eq
    rw [List.length_map] at rk
    refine ⟨_, rfl, a, xs, _, .ref d0, rfl, rfl, e0.seq R.at_, at0, d0, kv0, row0.map (·.1), rfl, .inl (e0 _ _ hd0), by rw [hk0, List.map_map]; rfl, by rw [List.length_map]; omega, fun ys pi py sy npi => ⟨(by show 2 ≤ sizeLine; decide), fun t0 nt0 => ?_⟩⟩
    have q1 : Gr W0 G H (upd G pi (.lst (ys.map V.str))) (upd H pi (.lst (ys.map V.str))) := (Gr.refl e0).add npi npi
    have k1 : upd G pi (.lst (ys.map V.str)) pi = some (.lst (ys.map V.str)) := upd_same
    generalize upd G pi (.lst (ys.map V.str)) = G1 at q1 k1
    generalize upd H pi (.lst (ys.map V.str)) = H1 at q1 nt0
    have q2 := q1.more (same_new (o := .tup [.ref pi, .int 0]) nt0)
    have k2 : upd H1 t0 (.tup [.ref pi, .int 0]) t0 = some (.tup [.ref pi, .int 0]) := upd_same
    refine ⟨t0, _, rfl, SqT.of k2, rfl, _, _, rfl, _, _, rfl, rfl, ?_⟩
    generalize upd H1 t0 (.tup [.ref pi, .int 0]) = H2 at q2 k2
    have R1 : Ru K G1 a xs ins rs := R.up q1.sub
    have yp : ys.Perm ins := py.trans ok0.keys
    have yin : ∀ {k : Str}, k ∈ ys ↔ k ∈ ins := fun {k} => yp.mem_iff
    have yl := yp.length_eq
    have yn := yp.nodup_iff.mpr oi.nd
    have steps : ∀ {G' : Hp} {q : Int} {wd : Str}, Same G1 G' → 0 ≤ q → q < rs.length → wd ∈ ys → ∃ d kvs t, atI xs q = some (.ref d) ∧ G' d = some (.dK kvs) ∧ DGet G' d (.str wd) (some (.ref t)) ∧ SqT K G' t [.int (Kp.stp rs q wd).1, .str (Kp.stp rs q wd).2] := fun {G' q wd} e q0 q1 hw => by
      obtain ⟨d1, kv1, row1, at1, _, _, g1, ok1, hd1, hk1, hs1⟩ := R1.row oi.ne q0 q1
      obtain ⟨t1, v1, s1⟩ := R1.stp g1 ok1 hk1 hs1 (yin.mp hw)
      exact ⟨d1, kv1, t1, at1, e _ _ hd1, by rw [← v1]; exact DGet.k (k := Sum.inr wd) (e _ _ hd1), sqT_up e s1⟩
    -- the first marks
    refine ⟨_, rfl, a, xs, rfl, .inl (q2.has.seq (e0.seq R.at_)), xs.length, rfl, ?_⟩
    have upa : ∀ {G' H' : Hp}, Gr W0 G H G' H' → SqL K H' a xs := fun g => g.has.seq (e0.seq R.at_)
    have upi : ∀ {G' H' : Hp}, Gr W0 G H G' H' → Same G1 G' → H' pi = some (.lst (ys.map V.str)) := fun g e => g.fz _ _ (e _ _ k1)
    refine ⟨by omega, by omega, fun D nD => ?_⟩
    have nD0 := q2.has.free nD
    refine lc_range (lo := 0) (n := xs.length) (fun i H' => ∃ (G' : Hp) (vs : List V) (ds : List PyData), Gr W0 G H G' H' ∧ Same G1 G' ∧ G' D = none ∧ H' D = some (.lst vs) ∧ DDs K G' vs ds ∧ okMs 1 ds ∧ ds.length = i)
      ⟨G1, [], [], q2.chg (none_of q2.fz nD) (.inr nD0), Same.refl _, none_of q2.fz nD, upd_same, .nil, fun d h => (by cases h), rfl⟩ ?_ ?_
    · rintro i H' hi ⟨G', vs, ds, g, eG, gD, hD, dv, od, dl⟩
      refine ⟨rfl, _, rfl, pi, rfl, ⟨_, SqL.of (upi g eG)⟩, fun D2 nD2 => ?_⟩
      have DD2 : D ≠ D2 := ne_of_none hD nD2
      refine lc_list (K := K) (xs := ys.map V.str) (fun j H'' => Same H' H'' ∧ H'' D2 = some (.lst (((ys.take j).map fun wd => (Kp.stp rs (i : Int) wd).2).map V.str))) ⟨same_new nD2, upd_same⟩ (fun j H'' _ h => SqL.of (h.1 _ _ (upi g eG))) ?_ ?_
      · rintro j x H'' hx ⟨e5, d5⟩
        obtain ⟨wd, hwd, rfl⟩ := at_map hx
        obtain ⟨d, kvs, t, at1, _, dg, st⟩ := steps (q := (i : Int)) (eG.trans (g.fz.trans e5)) (by omega) (by omega) (List.mem_of_getElem? hwd)
        have jl := (List.getElem?_eq_some_iff.mp hwd).1
        refine ⟨rfl, _, rfl, _, rfl, a, xs, _, .ref d, rfl, rfl, e5.seq (upa g), by rw [Int.zero_add]; exact at1, _, rfl, d, .ref t, rfl, dg, t, _, _, .str _, rfl, rfl, st, rfl, ?_⟩
        refine ⟨_, d5, ?_, same_chg e5 nD2, ?_⟩
        · rw [List.length_map, List.length_map, List.length_take]; omega
        · rw [upd_same, List.take_succ, hwd, List.map_append, List.map_append]; rfl
      · rintro H'' ⟨e5, d5⟩
        rw [List.length_map, List.take_length] at d5
        have nD20 := g.has.free nD2
        have gD2 := none_of g.fz nD2
        have g5 := (g.more e5).freeze nD20 d5
        have sG := same_new (o := .lst ((ys.map fun wd => (Kp.stp rs (i : Int) wd).2).map V.str)) gD2
        have hl := dv.length
        refine ⟨vs, e5 _ _ hD, by omega, _, _, ds ++ [.list ((ys.map fun wd => (Kp.stp rs (i : Int) wd).2).map PyData.str)], g5.chg (by rw [upd_ne DD2]; exact gD) (.inr nD0), eG.trans sG, by rw [upd_ne DD2]; exact gD, upd_same, (dv.up sG).append (.one (.lst (SqL.of upd_same) ?_)), ?_, by simp [dl]⟩
        · have h := DDs.strs (K := K) (G := upd G' D2 (.lst ((ys.map fun wd => (Kp.stp rs (i : Int) wd).2).map V.str))) (ys.map fun wd => (Kp.stp rs (i : Int) wd).2)
          exact h
        · intro d m
          rcases List.mem_append.mp m with m | m
          · exact od d m
          · rw [List.mem_singleton.mp m, List.map_map]
            refine okM_list (k := 0) (okMs_map fun wd hw => okM_str 0 (strOk_name ?_))
            exact (R.ok.stp (q := (i : Int)) (by omega) (by omega) (yin.mp hw)).2.2
    · rintro H3 ⟨G3, vm, dm, q3, e3, gD, hD, dv, od, dl⟩
      have q4 := q3.freeze nD0 hD
      have sG := same_new (o := .lst vm) gD
      have k4 : upd G3 D (.lst vm) D = some (.lst vm) := upd_same
      have dv4 := dv.up sG
      have e4 := e3.trans sG
      generalize upd G3 D (.lst vm) = G4 at q4 k4 dv4 e4
      clear q1 q2 q3 e3 sG dv gD hD k2 nD nD0
      refine ⟨_, rfl, a, xs, rfl, .inl (upa q4), _, _, rfl, rfl, xs.length + 1, rfl, by omega, by omega, ?_⟩
      refine for_rangeB (fun σ' H' => ∃ (G' : Hp) (pm : Addr) (js : List Int) (c2 c3 c5 c6 c7 c8 : Option V), σ' = [some (.ref a), some (.ref pi), c2, c3, some (.ref pm), c5, c6, c7, c8, none, none, none, none, none, none] ∧ Gr W0 G H G' H' ∧ Same G1 G' ∧ G' pm = some (.lst (js.map V.int)) ∧ js.length = rs.length) ?_
        (fun i σ' H' => ∃ (G' : Hp) (pm : Addr) (vm : List V) (dm : List PyData) (sz : Int) (c3 c5 c6 c7 c8 : Option V), σ' = [some (.ref a), some (.ref pi), some (.int sz), c3, some (.ref pm), c5, c6, c7, c8, none, none, none, none, none, none] ∧ Gr W0 G H G' H' ∧ Same G1 G' ∧ G' pm = some (.lst vm) ∧ DDs K G' vm dm ∧ okMs 1 dm ∧ dm.length = rs.length ∧ (0 < i → ∃ js : List Int, dm = js.map PyData.int))
        ⟨G4, D, vm, dm, 0, none, none, none, none, none, rfl, q4, e4, k4, dv4, od, by omega, fun h => by omega⟩ ?_ ?_
      · rintro σ' H' ⟨G', pm, js, c2, c3, c5, c6, c7, c8, rfl, g, eG, hpm, jsl⟩
        refine ⟨(by show 1 ≤ sizeLine; decide), fun pl npl => ⟨Nat.zero_le _, fun pf npf => ⟨(by show 2 ≤ sizeLine; decide), fun t nt => ?_⟩⟩⟩
        have npl0 := g.has.free npl
        have gpl := none_of g.fz npl
        have g1 := g.more (same_new (o := .lst [.int 0]) npl)
        have k1l : upd H' pl (.lst [.int 0]) pl = some (.lst [.int 0]) := upd_same
        generalize upd H' pl (.lst [.int 0]) = H1' at g1 k1l npf nt
        have npf0 := g1.has.free npf
        have gpf := none_of g1.fz npf
        have plpf : pl ≠ pf := ne_of_none k1l npf
        have g2 := g1.more (same_new (o := .lst []) npf)
        have k2l := (same_new (o := .lst []) npf) _ _ k1l
        have k2f : upd H1' pf (.lst []) pf = some (.lst []) := upd_same
        generalize upd H1' pf (.lst []) = H2' at g2 k2l k2f nt
        have g3 := g2.more (same_new (o := .tup [.ref pl, .ref pf]) nt)
        have k3l := (same_new (o := .tup [.ref pl, .ref pf]) nt) _ _ k2l
        have k3f := (same_new (o := .tup [.ref pl, .ref pf]) nt) _ _ k2f
        have k3t : upd H2' t (.tup [.ref pl, .ref pf]) t = some (.tup [.ref pl, .ref pf]) := upd_same
        refine ⟨t, _, rfl, SqT.of k3t, rfl, _, _, rfl, _, _, rfl, rfl, ?_⟩
        generalize upd H2' t (.tup [.ref pl, .ref pf]) = H3' at g3 k3l k3f
        clear k1l k2l k2f k3t nt npf npl g1 g2
        refine ⟨fun m σ' H4 => ∃ (G4 : Hp) (qs : List Int) (fr : List Row) (vf : List V) (c3 c8 c11 c12 c13 : Option V), m + fr.length = rs.length ∧ σ' = [some (.ref a), some (.ref pi), c2, c3, some (.ref pm), c5, c6, c7, c8, some (.ref pl), some (.ref pf), c11, c12, c13, none] ∧ Gr W0 G H G4 H4 ∧ Same G' G4 ∧ G4 pl = none ∧ G4 pf = none ∧ H4 pl = some (.lst (qs.map V.int)) ∧ H4 pf = some (.lst vf) ∧ DDs K G4 vf (fr.map rowD) ∧ 0 < qs.length ∧ fr.length ≤ qs.length ∧ (∀ q ∈ qs, 0 ≤ q ∧ q < rs.length) ∧ (qs.map (mk js)).Nodup ∧ ∀ r ∈ fr, OkRow ins qs.length r, ?_, ?_⟩
        · exact ⟨_, G', [0], [], [], c3, c8, none, none, none, rfl, rfl, g3, Same.refl _, gpl, gpf, k3l, k3f, .nil, by decide, by decide, fun q h => (by rw [List.mem_singleton.mp h]; omega), by simp, fun r h => (by cases h)⟩
        · rintro m σ' H4 ⟨G4, qs, fr, vf, c3, c8, c11, c12, c13, hm, rfl, g4, e4, gl4, gf4, hl4, hf4, dvf, q0, fq, qin, nd, okr⟩
          have vfl := dvf.length
          rw [List.length_map] at vfl
          have qfew : qs.length ≤ rs.length := few_ints (nodup_of_map nd) qin
          refine ⟨_, rfl, pf, vf, rfl, .inl (SqL.of hf4), _, rfl, pl, _, rfl, .inl (SqL.of hl4), _, _, rfl, rfl, _, rfl, ite2 (fun c => ?_) fun c => ?_⟩
          · have c' : fr.length < qs.length := by
              have := of_decide_eq_true c
              rw [List.length_map] at this
              omega
            refine ⟨_, fun _ _ h => h, ?_⟩
            intro d nd_
            have nd0 := g4.has.free nd_
            have gd := none_of g4.fz nd_
            have pld : pl ≠ d := ne_of_none hl4 nd_
            have pfd : pf ≠ d := ne_of_none hf4 nd_
            have g5 := g4.chg (o := .dK []) gd (.inr nd0)
            have hl5 : upd H4 d (.dK []) pl = some (.lst (qs.map V.int)) := by rw [upd_ne pld]; exact hl4
            have hf5 : upd H4 d (.dK []) pf = some (.lst vf) := by rw [upd_ne pfd]; exact hf4
            have hd5 : upd H4 d (.dK []) d = some (.dK []) := upd_same
            generalize upd H4 d (.dK []) = H5 at g5 hl5 hf5 hd5
            refine ⟨_, rfl, pi, rfl, ⟨_, SqL.of (upi g5 (eG.trans e4))⟩, ?_⟩
            refine for_list (K := K) (xs := ys.map V.str) (fun j σ' H6 => ∃ (G6 : Hp) (qs : List Int) (kvs : List (L2.Key × V)) (row : Row) (c3 c11 c12 c13 : Option V), σ' = [some (.ref a), some (.ref pi), c2, c3, some (.ref pm), c5, c6, c7, some (.ref d), some (.ref pl), some (.ref pf), c11, c12, c13, none] ∧ Gr W0 G H G6 H6 ∧ Same G4 G6 ∧ G6 pl = none ∧ G6 pf = none ∧ G6 d = none ∧ H6 pl = some (.lst (qs.map V.int)) ∧ H6 pf = some (.lst vf) ∧ H6 d = some (.dK kvs) ∧ fr.length < qs.length ∧ (∀ q ∈ qs, 0 ≤ q ∧ q < rs.length) ∧ (qs.map (mk js)).Nodup ∧ (∀ r ∈ fr, OkRow ins qs.length r) ∧
                row.map (·.1) = ys.take j ∧ kvs.map (·.1) = row.map (fun q => (Sum.inr q.1 : L2.Key)) ∧ DDs K G6 (kvs.map (·.2)) (row.map fun q => stD q.2) ∧ ∀ q ∈ row, 0 ≤ q.2.1 ∧ q.2.1 < qs.length ∧ isName q.2.2 = true)
              ⟨G4, qs, [], [], c3, c11, c12, c13, rfl, g5, Same.refl _, gl4, gf4, gd, hl5, hf5, hd5, c', qin, nd, okr, rfl, rfl, .nil, fun q h => (by cases h)⟩ ?_ ?_ ?_
            · rintro j σ' H6 _ ⟨G6, qs, kvs, row, c3, c11, c12, c13, _, g6, e6, _⟩
              exact SqL.of (upi g6 (eG.trans (e4.trans e6)))
            · clear hd5 hf5 hl5 g5 c' qin nd okr nd_ qfew hl4 c q0 fq
              rintro j x σ' H6 hx ⟨G6, qs, kvs, row, c3, c11, c12, c13, rfl, g6, e6, gl6, gf6, gd6, hl6, hf6, hd6, c', qin, nd, okr, rk', kk, dk, okq⟩
              obtain ⟨wd, hwd, rfl⟩ := at_map hx
              have win := List.mem_of_getElem? hwd
              have qfew : qs.length ≤ rs.length := few_ints (nodup_of_map nd) qin
              obtain ⟨q, hq⟩ : ∃ q, qs[fr.length]? = some q := ⟨_, List.getElem?_eq_getElem c'⟩
              have qb := qin q (List.mem_of_getElem? hq)
              have so := R.ok.stp qb.1 qb.2 (yin.mp win)
              have eG6 := eG.trans (e4.trans e6)
              obtain ⟨d1, kv1, t1, at1, _, dg, st⟩ := steps (eG6.trans g6.fz) qb.1 qb.2 win
              have hpm6 := g6.fz _ _ ((e4.trans e6) _ _ hpm)
              refine ⟨_, rfl, _, rfl, _, rfl, pf, vf, rfl, .inl (SqL.of hf6), pl, _, _, .int q, rfl, rfl, SqL.of hl6, at_of (show (vf.length : Int) = ((fr.length : Nat) : Int) by omega) (by rw [List.getElem?_map, hq]; rfl), a, xs, _, .ref d1, rfl, rfl, upa g6, at1, _, rfl, d1, .ref t1, rfl, dg, t1, _, rfl, st, rfl, _, _, rfl, _, _, rfl, rfl, ?_⟩
              have mat : ∀ {z : Int}, 0 ≤ z → z < rs.length → atI (js.map V.int) z = some (.int (mk js z)) := fun {z} z0 z1 => at_of (show z = ((z.toNat : Nat) : Int) by omega) (by rw [List.getElem?_map, mk_at z0 (by omega)]; rfl)
              refine ⟨_, rfl, pl, _, rfl, .inl (SqL.of hl6), qs.length, by rw [List.length_map], by omega, by omega, fun D nD => ?_⟩
              refine lc_range (lo := 0) (n := qs.length) (fun i H7 => ∃ sel : List Int, Same H6 H7 ∧ H7 D = some (.lst (sel.map V.int)) ∧ sel.length ≤ i ∧ (∀ s ∈ sel, 0 ≤ s ∧ s < qs.length) ∧ (sel = [] → ∀ z ∈ qs.take i, mk js z ≠ mk js (Kp.stp rs q wd).1)) ⟨[], same_new nD, upd_same, Nat.le_refl _, fun s h => (by cases h), fun _ z h => (by simp at h)⟩ ?_ ?_
              · rintro i2 H7 hi2 ⟨sel, e7, k7, sl7, sb, sn⟩
                obtain ⟨z, hz⟩ : ∃ z, qs[i2]? = some z := ⟨_, List.getElem?_eq_getElem hi2⟩
                have zb := qin z (List.mem_of_getElem? hz)
                have tk : qs.take (i2 + 1) = qs.take i2 ++ [z] := by rw [List.take_succ, hz]; rfl
                refine ⟨rfl, _, rfl, _, rfl, _, rfl, pl, _, _, .int z, rfl, rfl, SqL.of (e7 _ _ hl6), at_of (show (0 : Int) + (i2 : Int) = ((i2 : Nat) : Int) by omega) (by rw [List.getElem?_map, hz]; rfl), pm, _, _, .int (mk js z), rfl, rfl, SqL.of (e7 _ _ hpm6), mat zb.1 zb.2, _, rfl, _, rfl, pm, _, _, .int (mk js (Kp.stp rs q wd).1), rfl, rfl, SqL.of (e7 _ _ hpm6), mat so.1 so.2.1, rfl, _, rfl, ?_⟩
                refine ite2 (fun c2 => ?_) fun c2 => ?_
                · refine ⟨_, rfl, _, k7, by rw [List.length_map]; omega, sel ++ [(i2 : Int)], same_chg e7 nD, by rw [upd_same, List.map_append]; simp, by simp; omega, ?_, fun h => by simp at h⟩
                  intro s hs
                  rcases List.mem_append.mp hs with h | h
                  · exact sb s h
                  · rw [List.mem_singleton.mp h]; omega
                · refine ⟨sel, e7, k7, by omega, sb, fun h y hy => ?_⟩
                  rw [tk] at hy
                  rcases List.mem_append.mp hy with hy | hy
                  · exact sn h y hy
                  · rw [List.mem_singleton.mp hy]
                    simpa using c2
              · rintro H7 ⟨sel, e7, k7, sl7, sb, sn⟩
                refine ⟨_, rfl, Nat.zero_le _, fun p np => ⟨.list (sel.map PyData.int), .list [], .lst (SqL.of (by rw [upd_ne (ne_of_none k7 np)]; exact k7)) ((DDs.ints sel).dp (okMs_map (k := 0) fun x _ => okM_int 0 x).pl), .lst (SqL.of upd_same) .nil, (okM_list (k := 0) (okMs_map fun x _ => okM_int 0 x)).shaped (by decide), (okM_list (k := 0) (ds := []) fun _ h => (by cases h)).shaped (by decide), _, rfl, ?_⟩⟩
                have g8 := (g6.more e7).more (same_new (o := .lst []) np)
                have s8 := e7.trans (same_new (o := .lst []) np)
                have hl8 := s8 _ _ hl6
                have hf8 := s8 _ _ hf6
                have hd8 := s8 _ _ hd6
                have hD8 := (same_new (o := .lst []) np) _ _ k7
                have plD : pl ≠ D := ne_of_none hl6 nD
                have pdD : d ≠ D := ne_of_none hd6 nD
                generalize upd H7 p (.lst []) = H8 at g8 hl8 hf8 hd8 hD8
                have sele : PyData.eqv (.list (sel.map PyData.int)) (.list []) = true → sel = [] := fun h => by
                  cases sel with
                  | nil => rfl
                  | cons x l => simp [PyData.eqv, PyData.eqvAll] at h
                have seln : ¬ PyData.eqv (.list (sel.map PyData.int)) (.list []) = true → sel ≠ [] := fun h e => by
                  rw [e] at h
                  simp [PyData.eqv, PyData.eqvAll] at h
                have done : ∀ (qs' : List Int) (s0 : Int) (H9 : Hp) (p3 : Addr), True := fun _ _ _ _ => trivial
                refine ite2 (fun c3 => ?_) fun c3 => ?_
                · have sz := sele c3
                  refine ⟨_, rfl, .inl ⟨rfl, _, SqL.of hl8⟩, _, rfl, pl, _, _, rfl, rfl, hl8, by rw [List.length_map]; omega, ?_⟩
                  obtain ⟨qs', hqs⟩ : ∃ qs', qs' = qs ++ [(Kp.stp rs q wd).1] := ⟨_, rfl⟩
                  have g9 := g8.chg (o := .lst (qs.map V.int ++ [.int (Kp.stp rs q wd).1])) gl6 (.inr npl0)
                  have hl9 : upd H8 pl (.lst (qs.map V.int ++ [.int (Kp.stp rs q wd).1])) pl = some (.lst (qs'.map V.int)) := by rw [upd_same, hqs, List.map_append]; rfl
                  have hf9 : upd H8 pl (.lst (qs.map V.int ++ [.int (Kp.stp rs q wd).1])) pf = some (.lst vf) := by rw [upd_ne plpf.symm]; exact hf8
                  have hd9 : upd H8 pl (.lst (qs.map V.int ++ [.int (Kp.stp rs q wd).1])) d = some (.dK kvs) := by rw [upd_ne pld.symm]; exact hd8
                  have hD9 : upd H8 pl (.lst (qs.map V.int ++ [.int (Kp.stp rs q wd).1])) D = some (.lst (sel.map V.int)) := by rw [upd_ne plD.symm]; exact hD8
                  generalize upd H8 pl (.lst (qs.map V.int ++ [.int (Kp.stp rs q wd).1])) = H9 at g9 hl9 hf9 hd9 hD9
                  have ql : qs.length ≤ qs'.length := by rw [hqs]; simp
                  have qin' : ∀ z ∈ qs', 0 ≤ z ∧ z < rs.length := fun z hz => by
                    rw [hqs] at hz
                    rcases List.mem_append.mp hz with h | h
                    · exact qin z h
                    · rw [List.mem_singleton.mp h]; exact ⟨so.1, so.2.1⟩
                  have nd' : (qs'.map (mk js)).Nodup := by
                    rw [hqs, List.map_append, List.nodup_append]
                    refine ⟨nd, by simp, fun x hx y hy => ?_⟩
                    obtain ⟨z, hz, rfl⟩ := List.mem_map.mp hx
                    have : y = mk js (Kp.stp rs q wd).1 := by simpa using hy
                    rw [this]
                    exact sn sz z (by rw [List.take_length]; exact hz)
                  refine ⟨_, rfl, _, rfl, pl, _, rfl, .inl (SqL.of hl9), _, _, rfl, rfl, (by show 1 ≤ sizeLine; decide), fun p2 np2 => ?_⟩
                  have g10 := g9.more (same_new (o := .lst [.int (((qs'.map V.int).length : Int) - 1)]) np2)
                  have s10 := same_new (o := .lst [.int (((qs'.map V.int).length : Int) - 1)]) np2
                  have k10 : upd H9 p2 (.lst [.int (((qs'.map V.int).length : Int) - 1)]) p2 = some (.lst [.int (((qs'.map V.int).length : Int) - 1)]) := upd_same
                  refine ⟨D, p2, _, _, rfl, rfl, s10 _ _ hD9, k10, (by rw [List.length_map]; show sel.length + 1 ≤ sizeLine; omega), fun p3 np3 => ?_⟩
                  have hl10 := s10 _ _ hl9
                  have hf10 := s10 _ _ hf9
                  have hd10 := s10 _ _ hd9
                  generalize upd H9 p2 (.lst [.int (((qs'.map V.int).length : Int) - 1)]) = H10 at g10 hl10 hf10 hd10 np3
                  have s11 := same_new (o := .lst (sel.map V.int ++ [.int (((qs'.map V.int).length : Int) - 1)])) np3
                  have g11 := g10.more s11
                  have k11 : upd H10 p3 (.lst (sel.map V.int ++ [.int (((qs'.map V.int).length : Int) - 1)])) p3 = some (.lst (sel.map V.int ++ [.int (((qs'.map V.int).length : Int) - 1)])) := upd_same
                  have hl11 := s11 _ _ hl10
                  have hf11 := s11 _ _ hf10
                  have hd11 := s11 _ _ hd10
                  generalize upd H10 p3 (.lst (sel.map V.int ++ [.int (((qs'.map V.int).length : Int) - 1)])) = H11 at g11 k11 hl11 hf11 hd11
                  obtain ⟨s0, hs0', b0, b1⟩ : ∃ s0 : Int, (sel.map V.int ++ [V.int (((qs'.map V.int).length : Int) - 1)])[0]? = some (.int s0) ∧ 0 ≤ s0 ∧ s0 < qs'.length := by
                    cases sel with
                    | nil => exact ⟨_, rfl, by rw [List.length_map]; omega, by rw [List.length_map]; omega⟩
                    | cons y l => exact ⟨y, rfl, (sb y (by simp)).1, by have := (sb y (by simp)).2; omega⟩
                  refine ⟨p3, _, _, .int s0, rfl, rfl, SqL.of k11, at_of rfl hs0', _, rfl, (by show 2 ≤ sizeLine; decide), fun t2 nt2 => ?_⟩
                  have g12 := g11.add (o := .tup [.int s0, .str (Kp.stp rs q wd).2]) (g11.has.free nt2) nt2
                  have gt2 := none_of g11.fz nt2
                  have sT := same_new (o := .tup [.int s0, .str (Kp.stp rs q wd).2]) gt2
                  have plt : pl ≠ t2 := ne_of_none hl11 nt2
                  have pft : pf ≠ t2 := ne_of_none hf11 nt2
                  have dt : d ≠ t2 := ne_of_none hd11 nt2
                  have hd12 : upd H11 t2 (.tup [.int s0, .str (Kp.stp rs q wd).2]) d = some (.dK kvs) := by rw [upd_ne dt]; exact hd11
                  have klen : kvs.length = j := by
                    have z1 := congrArg List.length kk
                    have z2 := congrArg List.length rk'
                    have z3 := (List.getElem?_eq_some_iff.mp hwd).1
                    simp at z1 z2
                    omega
                  have jl := (List.getElem?_eq_some_iff.mp hwd).1
                  refine ⟨_, rfl, _, rfl, d, _, rfl, DPut.k (k := Sum.inr wd) hd12 (by omega), ?_⟩
                  have fresh : (Sum.inr wd : L2.Key) ∉ kvs.map (·.1) := by
                    rw [kk]
                    intro m
                    obtain ⟨q, hq, e⟩ := List.mem_map.mp m
                    have e2 : q.1 = wd := Sum.inr.inj e
                    have : wd ∈ row.map (·.1) := List.mem_map.mpr ⟨q, hq, e2⟩
                    rw [rk'] at this
                    exact nodup_snoc yn hwd this
                  rw [putK_new fresh]
                  refine ⟨_, qs', _, row ++ [(wd, (s0, (Kp.stp rs q wd).2))], _, _, _, _, rfl, g12.chg (by rw [upd_ne dt]; exact gd6) (.inr nd0), e6.trans sT, by rw [upd_ne plt]; exact gl6, by rw [upd_ne pft]; exact gf6, by rw [upd_ne dt]; exact gd6, by rw [upd_ne pld, upd_ne plt]; exact hl11, by rw [upd_ne pfd, upd_ne pft]; exact hf11, upd_same, by omega, qin', nd', fun r hr' => ⟨(okr r hr').keys, fun z hz => by have := (okr r hr').ok z hz; exact ⟨this.1, by omega, this.2.2⟩⟩, ?_, ?_, ?_, ?_⟩
                  · rw [List.map_append, rk', List.take_succ, hwd]; rfl
                  · rw [List.map_append, kk, List.map_append]; rfl
                  · rw [List.map_append, List.map_append]
                    exact (dk.up sT).append (.one (DD.step (p := (s0, (Kp.stp rs q wd).2)) (SqT.of upd_same)))
                  · intro z hz
                    rcases List.mem_append.mp hz with h | h
                    · have := okq z h
                      exact ⟨this.1, by omega, this.2.2⟩
                    · rw [List.mem_singleton.mp h]
                      exact ⟨b0, b1, so.2.2⟩
                · have sz := seln c3
                  obtain ⟨qs', hqs⟩ : ∃ qs', qs' = qs := ⟨_, rfl⟩
                  have g9 := g8
                  have hl9 : H8 pl = some (.lst (qs'.map V.int)) := by rw [hqs]; exact hl8
                  have hf9 := hf8
                  have hd9 := hd8
                  have hD9 := hD8
                  clear g8 hl8 hf8 hd8 hD8
                  generalize H8 = H9 at g9 hl9 hf9 hd9 hD9
                  have ql : qs.length ≤ qs'.length := by rw [hqs]; exact Nat.le_refl _
                  have qin' : ∀ z ∈ qs', 0 ≤ z ∧ z < rs.length := by rw [hqs]; exact qin
                  have nd' : (qs'.map (mk js)).Nodup := by rw [hqs]; exact nd
                  refine ⟨_, rfl, _, rfl, pl, _, rfl, .inl (SqL.of hl9), _, _, rfl, rfl, (by show 1 ≤ sizeLine; decide), fun p2 np2 => ?_⟩
                  have g10 := g9.more (same_new (o := .lst [.int (((qs'.map V.int).length : Int) - 1)]) np2)
                  have s10 := same_new (o := .lst [.int (((qs'.map V.int).length : Int) - 1)]) np2
                  have k10 : upd H9 p2 (.lst [.int (((qs'.map V.int).length : Int) - 1)]) p2 = some (.lst [.int (((qs'.map V.int).length : Int) - 1)]) := upd_same
                  refine ⟨D, p2, _, _, rfl, rfl, s10 _ _ hD9, k10, (by rw [List.length_map]; show sel.length + 1 ≤ sizeLine; omega), fun p3 np3 => ?_⟩
                  have hl10 := s10 _ _ hl9
                  have hf10 := s10 _ _ hf9
                  have hd10 := s10 _ _ hd9
                  generalize upd H9 p2 (.lst [.int (((qs'.map V.int).length : Int) - 1)]) = H10 at g10 hl10 hf10 hd10 np3
                  have s11 := same_new (o := .lst (sel.map V.int ++ [.int (((qs'.map V.int).length : Int) - 1)])) np3
                  have g11 := g10.more s11
                  have k11 : upd H10 p3 (.lst (sel.map V.int ++ [.int (((qs'.map V.int).length : Int) - 1)])) p3 = some (.lst (sel.map V.int ++ [.int (((qs'.map V.int).length : Int) - 1)])) := upd_same
                  have hl11 := s11 _ _ hl10
                  have hf11 := s11 _ _ hf10
                  have hd11 := s11 _ _ hd10
                  generalize upd H10 p3 (.lst (sel.map V.int ++ [.int (((qs'.map V.int).length : Int) - 1)])) = H11 at g11 k11 hl11 hf11 hd11
                  obtain ⟨s0, hs0', b0, b1⟩ : ∃ s0 : Int, (sel.map V.int ++ [V.int (((qs'.map V.int).length : Int) - 1)])[0]? = some (.int s0) ∧ 0 ≤ s0 ∧ s0 < qs'.length := by
                    cases sel with
                    | nil => exact ⟨_, rfl, by rw [List.length_map]; omega, by rw [List.length_map]; omega⟩
                    | cons y l => exact ⟨y, rfl, (sb y (by simp)).1, by have := (sb y (by simp)).2; omega⟩
                  refine ⟨p3, _, _, .int s0, rfl, rfl, SqL.of k11, at_of rfl hs0', _, rfl, (by show 2 ≤ sizeLine; decide), fun t2 nt2 => ?_⟩
                  have g12 := g11.add (o := .tup [.int s0, .str (Kp.stp rs q wd).2]) (g11.has.free nt2) nt2
                  have gt2 := none_of g11.fz nt2
                  have sT := same_new (o := .tup [.int s0, .str (Kp.stp rs q wd).2]) gt2
                  have plt : pl ≠ t2 := ne_of_none hl11 nt2
                  have pft : pf ≠ t2 := ne_of_none hf11 nt2
                  have dt : d ≠ t2 := ne_of_none hd11 nt2
                  have hd12 : upd H11 t2 (.tup [.int s0, .str (Kp.stp rs q wd).2]) d = some (.dK kvs) := by rw [upd_ne dt]; exact hd11
                  have klen : kvs.length = j := by
                    have z1 := congrArg List.length kk
                    have z2 := congrArg List.length rk'
                    have z3 := (List.getElem?_eq_some_iff.mp hwd).1
                    simp at z1 z2
                    omega
                  have jl := (List.getElem?_eq_some_iff.mp hwd).1
                  refine ⟨_, rfl, _, rfl, d, _, rfl, DPut.k (k := Sum.inr wd) hd12 (by omega), ?_⟩
                  have fresh : (Sum.inr wd : L2.Key) ∉ kvs.map (·.1) := by
                    rw [kk]
                    intro m
                    obtain ⟨q, hq, e⟩ := List.mem_map.mp m
                    have e2 : q.1 = wd := Sum.inr.inj e
                    have : wd ∈ row.map (·.1) := List.mem_map.mpr ⟨q, hq, e2⟩
                    rw [rk'] at this
                    exact nodup_snoc yn hwd this
                  rw [putK_new fresh]
                  refine ⟨_, qs', _, row ++ [(wd, (s0, (Kp.stp rs q wd).2))], _, _, _, _, rfl, g12.chg (by rw [upd_ne dt]; exact gd6) (.inr nd0), e6.trans sT, by rw [upd_ne plt]; exact gl6, by rw [upd_ne pft]; exact gf6, by rw [upd_ne dt]; exact gd6, by rw [upd_ne pld, upd_ne plt]; exact hl11, by rw [upd_ne pfd, upd_ne pft]; exact hf11, upd_same, by omega, qin', nd', fun r hr' => ⟨(okr r hr').keys, fun z hz => by have := (okr r hr').ok z hz; exact ⟨this.1, by omega, this.2.2⟩⟩, ?_, ?_, ?_, ?_⟩
                  · rw [List.map_append, rk', List.take_succ, hwd]; rfl
                  · rw [List.map_append, kk, List.map_append]; rfl
                  · rw [List.map_append, List.map_append]
                    exact (dk.up sT).append (.one (DD.step (p := (s0, (Kp.stp rs q wd).2)) (SqT.of upd_same)))
                  · intro z hz
                    rcases List.mem_append.mp hz with h | h
                    · have := okq z h
                      exact ⟨this.1, by omega, this.2.2⟩
                    · rw [List.mem_singleton.mp h]
                      exact ⟨b0, b1, so.2.2⟩
            · rintro σ' H6 ⟨G6, qs, kvs, row, c3, c11, c12, c13, rfl, g6, e6, gl6, gf6, gd6, hl6, hf6, hd6, c', qin, nd, okr, rk', kk, dk, okq⟩
              rw [List.length_map, List.take_length] at rk'
              have qfew : qs.length ≤ rs.length := few_ints (nodup_of_map nd) qin
              refine ⟨_, rfl, .inl ⟨rfl, _, SqL.of hf6⟩, _, rfl, pf, vf, _, rfl, rfl, hf6, by omega, ?_⟩
              have g7 := g6.freeze nd0 hd6
              have sG := same_new (o := .dK kvs) gd6
              refine ⟨m - 1, by omega, _, qs, fr ++ [row], vf ++ [.ref d], _, _, _, _, _, by simp; omega, rfl, g7.chg (by rw [upd_ne pfd]; exact gf6) (.inr npf0), e4.trans (e6.trans sG), by rw [upd_ne pld]; exact gl6, by rw [upd_ne pfd]; exact gf6, by rw [upd_ne plpf]; exact hl6, upd_same, ?_, by omega, by simp; omega, qin, nd, ?_⟩
              · rw [List.map_append]
                refine (dvf.up (e6.trans sG)).append (.one (.dic upd_same ?_ ?_))
                · have z := congrArg (List.map keyD) kk
                  rw [List.map_map, List.map_map] at z
                  rw [List.map_map]
                  exact z.symm
                · rw [List.map_map]
                  exact dk.up sG
              · intro r hr'
                rcases List.mem_append.mp hr' with h | h
                · exact okr r h
                · rw [List.mem_singleton.mp h]
                  exact ⟨by rw [rk']; exact yp, okq⟩
          · have c' : fr.length = qs.length := by
              have z := c
              simp at z
              omega
            have g5 := g4.freeze npf0 hf4
            refine ⟨_, rfl, k _ _ _ g5 ⟨fr, .lst (SqL.of upd_same) (dvf.up (same_new gf4)), ⟨fun e => ?_, by omega, fun r hr' => by rw [c']; exact okr r hr'⟩, by omega⟩⟩
            rw [e] at c'
            simp at c'
            omega
      · intro rest i σ' H' hi ⟨G', pm, vm, dm, sz, c3, c5, c6, c7, c8, hσ, g, eG, hpm, dv, od, dl, hj⟩
        subst hσ
        have vml := dv.length
        have upd' : ∀ {q : Int}, 0 ≤ q → q < rs.length → ∃ v d, atI vm q = some v ∧ vm[q.toNat]? = some v ∧ dm[q.toNat]? = some d ∧ DD K G' v d ∧ okM 1 d := fun {q} q0 q1 => by
          have lt : q.toNat < dm.length := by omega
          obtain ⟨v, ev, hv⟩ := dv.getD (List.getElem?_eq_getElem lt)
          exact ⟨v, _, at_of (by omega) ev, ev, List.getElem?_eq_getElem lt, hv, od _ (List.getElem_mem lt)⟩
        have uvm : ∀ {G2 H2 : Hp}, Gr W0 G H G2 H2 → Same G' G2 → SqL K H2 pm vm := fun g e => SqL.of (g.fz _ _ (e _ _ hpm))
        refine ⟨_, rfl, a, xs, rfl, .inl (upa g), xs.length, rfl, by omega, by omega, fun D nD => ?_⟩
        have nD0 := g.has.free nD
        refine lc_range (lo := 0) (n := xs.length) (fun i H' => ∃ (G2 : Hp) (vr : List V) (dr : List PyData), Gr W0 G H G2 H' ∧ Same G' G2 ∧ G2 D = none ∧ H' D = some (.lst vr) ∧ DDs K G2 vr dr ∧ okMs 3 dr ∧ dr.length = i)
          ⟨G', [], [], g.chg (none_of g.fz nD) (.inr nD0), Same.refl _, none_of g.fz nD, upd_same, .nil, fun d h => (by cases h), rfl⟩ ?_ ?_
        · rintro ir H2 hir ⟨G2, vr, dr, g2, e2, gD, hD, dvr, odr, drl⟩
          obtain ⟨v1, d1, at1, _, _, hv1, od1⟩ := upd' (q := (ir : Int)) (by omega) (by omega)
          refine ⟨rfl, _, rfl, _, rfl, pm, vm, _, v1, rfl, rfl, uvm g2 e2, by rw [Int.zero_add]; exact at1, _, rfl, pi, rfl, ⟨_, SqL.of (upi g2 (eG.trans e2))⟩, fun D2 nD2 => ?_⟩
          have DD2 : D ≠ D2 := ne_of_none hD nD2
          refine lc_list (K := K) (xs := ys.map V.str) (fun j H'' => ∃ (vi : List V) (di : List PyData), Same H2 H'' ∧ H'' D2 = some (.lst vi) ∧ DDs K G' vi di ∧ okMs 1 di ∧ di.length = j) ⟨[], [], same_new nD2, upd_same, .nil, fun d h => (by cases h), rfl⟩ (fun j H'' _ h => (by obtain ⟨_, _, h, _⟩ := h; exact SqL.of (h _ _ (upi g2 (eG.trans e2))))) ?_ ?_
          · rintro j x H'' hx ⟨vi, di, e5, d5, dvi, odi, dil⟩
            obtain ⟨wd, hwd, rfl⟩ := at_map hx
            have jl := (List.getElem?_eq_some_iff.mp hwd).1
            have win := List.mem_of_getElem? hwd
            obtain ⟨d, kvs, t, at3, _, dg, st⟩ := steps (q := (ir : Int)) (eG.trans (e2.trans (g2.fz.trans e5))) (by omega) (by omega) win
            have so := R.ok.stp (q := (ir : Int)) (by omega) (by omega) (yin.mp win)
            obtain ⟨v3, d3, at4, _, _, hv3, od3⟩ := upd' so.1 so.2.1
            have vil := dvi.length
            refine ⟨rfl, _, rfl, _, rfl, _, rfl, a, xs, _, .ref d, rfl, rfl, e5.seq (upa g2), by rw [Int.zero_add]; exact at3, _, rfl, d, .ref t, rfl, dg, t, _, _, .int _, rfl, rfl, st, rfl, pm, vm, _, v3, rfl, rfl, e5.seq (uvm g2 e2), at4, ?_⟩
            refine ⟨_, d5, by omega, _, _, same_chg e5 nD2, upd_same, dvi.append (.one hv3), ?_, by simp [dil]⟩
            intro d' m
            rcases List.mem_append.mp m with m | m
            · exact odi d' m
            · rw [List.mem_singleton.mp m]; exact od3
          · rintro H'' ⟨vi, di, e5, d5, dvi, odi, dil⟩
            refine ⟨(by show 2 ≤ sizeLine; decide), fun p np => ?_⟩
            have nD20 := g2.has.free nD2
            have gD2 := none_of g2.fz nD2
            have g5 := (g2.more e5).freeze nD20 d5
            have sG := same_new (o := .lst vi) gD2
            have gD5 : upd G2 D2 (.lst vi) D = none := by rw [upd_ne DD2]; exact gD
            have k5 : upd G2 D2 (.lst vi) D2 = some (.lst vi) := upd_same
            have hD5 := e5 _ _ hD
            have e25 := e2.trans sG
            have dvr5 := dvr.up sG
            generalize upd G2 D2 (.lst vi) = G5 at g5 gD5 k5 e25 dvr5
            have g6 := g5.add (o := .lst [v1, .ref D2]) (g5.has.free np) np
            have gp := none_of g5.fz np
            have Dp' : D ≠ p := ne_of_none hD5 np
            have s6 := same_new (o := .lst [v1, .ref D2]) gp
            have vrl := dvr.length
            refine ⟨vr, by rw [upd_ne Dp']; exact hD5, by omega, _, _, dr ++ [.list [d1, .list di]], g6.chg (by rw [upd_ne Dp']; exact gD5) (.inr nD0), e25.trans s6, by rw [upd_ne Dp']; exact gD5, upd_same, (dvr5.up s6).append (.one (.lst (SqL.of upd_same) (.cons (hv1.up (e25.trans s6)) (.one (.lst (SqL.of (s6 _ _ k5)) (dvi.up (e25.trans s6))))))), ?_, by simp [drl]⟩
            intro d' m
            rcases List.mem_append.mp m with m | m
            · exact odr d' m
            · rw [List.mem_singleton.mp m]
              refine okM_list (k := 2) fun z hz => ?_
              rcases List.mem_cons.mp hz with hz | hz
              · rw [hz]; exact od1.up (by decide)
              · rw [List.mem_singleton.mp hz]; exact okM_list odi
        · rintro H3 ⟨G3, vr, dr, g3, e3, gD, hD, dvr, odr, drl⟩
          have g4 := g3.freeze nD0 hD
          have sG := same_new (o := .lst vr) gD
          have kD : upd G3 D (.lst vr) D = some (.lst vr) := upd_same
          have dvr4 := dvr.up sG
          have e4' := e3.trans sG
          generalize upd G3 D (.lst vr) = G4 at g4 kD dvr4 e4'
          refine ⟨Nat.zero_le _, fun pk npk => ⟨(by show 2 ≤ sizeLine; decide), fun t nt => ?_⟩⟩
          have npk0 := g4.has.free npk
          have gpk := none_of g4.fz npk
          have g5 := g4.more (same_new (o := .lst []) npk)
          have k5 : upd H3 pk (.lst []) pk = some (.lst []) := upd_same
          generalize upd H3 pk (.lst []) = H5 at g5 k5 nt
          have g6 := g5.more (same_new (o := .tup [.ref D, .ref pk]) nt)
          have k6 := (same_new (o := .tup [.ref D, .ref pk]) nt) _ _ k5
          have kt : upd H5 t (.tup [.ref D, .ref pk]) t = some (.tup [.ref D, .ref pk]) := upd_same
          refine ⟨t, _, rfl, SqT.of kt, rfl, _, _, rfl, _, _, rfl, rfl, ?_⟩
          generalize upd H5 t (.tup [.ref D, .ref pk]) = H6 at g6 k6
          clear g5 k5 kt nt gD hD dvr sG g3 e3 npk nD
          have rln := dvr4.length
          refine ⟨_, rfl, D, rfl, ⟨_, SqL.of (g6.fz _ _ kD)⟩, ?_⟩
          refine for_list (K := K) (xs := vr) (fun j σ' H' => ∃ (vk : List V) (dk : List PyData) (c8 : Option V), σ' = [some (.ref a), some (.ref pi), some (.int sz), c3, some (.ref pm), some (.int (0 + (i : Int))), some (.ref D), some (.ref pk), c8, none, none, none, none, none, none] ∧ Gr W0 G H G4 H' ∧ H' pk = some (.lst vk) ∧ DDs K G4 vk dk ∧ okMs 3 dk ∧ dk.length ≤ j ∧ ∀ d ∈ dr.take j, (dk.any fun z => PyData.eqv z d) = true)
            ⟨[], [], c8, rfl, g6, k6, .nil, fun d h => (by cases h), Nat.le_refl _, fun d h => (by simp at h)⟩ ?_ ?_ ?_
          · rintro j σ' H' _ ⟨_, _, _, _, h, _⟩
            exact SqL.of (h.fz _ _ kD)
          · rintro j x σ' H' hx ⟨vk, dk, c8, rfl, g7, hk7, dvk, odk, dkl, seen⟩
            obtain ⟨d, hd, hv⟩ := dvr4.get hx
            have jl := (List.getElem?_eq_some_iff.mp hx).1
            have odd := odr d (List.mem_of_getElem? hd)
            have kl := dvk.length
            have tk : dr.take (j + 1) = dr.take j ++ [d] := by rw [List.take_succ, hd]; rfl
            refine ⟨_, rfl, _, rfl, d, dk, (hv.up g7.fz).dp odd.pl, .lst (SqL.of hk7) ((dvk.up g7.fz).dp odk.pl), odd.shaped (by decide), (okM_list odk).shaped (by decide), _, rfl, ite2 (fun c => ?_) fun c => ?_⟩
            · refine ⟨_, rfl, .inl ⟨rfl, _, SqL.of hk7⟩, _, rfl, pk, vk, _, rfl, rfl, hk7, by omega, ?_⟩
              refine ⟨vk ++ [x], dk ++ [d], _, rfl, g7.chg gpk (.inr npk0), upd_same, dvk.append (.one hv), ?_, by simp; omega, ?_⟩
              · intro d' m
                rcases List.mem_append.mp m with m | m
                · exact odk d' m
                · rw [List.mem_singleton.mp m]; exact odd
              · intro d' m
                rw [tk] at m
                rw [List.any_append]
                rcases List.mem_append.mp m with m | m
                · rw [seen d' m]; rfl
                · rw [List.mem_singleton.mp m]
                  have er : PyData.eqv d d = true := eqvRefl odd.lay
                  simp [er]
            · refine ⟨vk, dk, _, rfl, g7, hk7, dvk, odk, by omega, fun d' m => ?_⟩
              rw [tk] at m
              rcases List.mem_append.mp m with m | m
              · exact seen d' m
              · rw [List.mem_singleton.mp m]
                simpa using c
          · rintro σ' H7 ⟨vk, dk, c8, rfl, g7, hk7, dvk, odk, dkl, seen⟩
            have seen' : ∀ d ∈ dr, (dk.any fun z => PyData.eqv z d) = true := fun d m => seen d (by rw [List.take_of_length_le (by omega)]; exact m)
            clear seen
            -- the marks anew
            refine ⟨_, rfl, D, rfl, ⟨_, SqL.of (g7.fz _ _ kD)⟩, fun E2 nE2 => ?_⟩
            have nE0 := g7.has.free nE2
            have pkE : pk ≠ E2 := ne_of_none hk7 nE2
            have gE := none_of g7.fz nE2
            refine lc_list (K := K) (xs := vr) (fun j H' => ∃ js : List Int, Same H7 H' ∧ H' E2 = some (.lst (js.map V.int)) ∧ js.length = j) ⟨[], same_new nE2, upd_same, rfl⟩ (fun j H' _ h => (by obtain ⟨_, h, _⟩ := h; exact SqL.of (h _ _ (g7.fz _ _ kD)))) ?_ ?_
            · rintro j x H' hx ⟨js, e8, k8, jsl⟩
              obtain ⟨d, hd, hv⟩ := dvr4.get hx
              have jl := (List.getElem?_eq_some_iff.mp hx).1
              have odd := odr d (List.mem_of_getElem? hd)
              obtain ⟨m, z, f1, f2, f3⟩ := first_of (seen' d (List.mem_of_getElem? hd))
              refine ⟨rfl, _, rfl, .inl ⟨rfl, _, SqL.of (e8 _ _ hk7)⟩, _, rfl, pk, x, d, dk, m, z, rfl, rfl, .lst (SqL.of (e8 _ _ hk7)) ((dvk.up (g7.fz.trans e8)).dp odk.pl), (hv.up (g7.fz.trans e8)).dp odd.pl, (okM_list odk).shaped (by decide), odd.shaped (by decide), f1, f2, f3, ?_⟩
              refine ⟨_, k8, by rw [List.length_map]; omega, js ++ [(m : Int)], same_chg e8 nE2, by rw [upd_same, List.map_append]; rfl, by simp [jsl]⟩
            · rintro H8 ⟨js, e8, k8, jsl⟩
              have g8 := (g7.more e8).freeze nE0 k8
              have hk8 := e8 _ _ hk7
              have sE := same_new (o := .lst (js.map V.int)) gE
              have kE : upd G4 E2 (.lst (js.map V.int)) E2 = some (.lst (js.map V.int)) := upd_same
              generalize upd G4 E2 (.lst (js.map V.int)) = G8 at g8 sE kE
              have eG8 := (eG.trans e4').trans sE
              have kl := dvk.length
              refine ⟨_, rfl, pk, vk, rfl, .inl (SqL.of hk8), _, rfl, rfl, _, rfl, ite2 (fun c => ?_) fun c => ?_⟩
              · exact rest _ _ ⟨G8, E2, js, _, _, _, _, _, _, rfl, g8, eG8, kE, by omega⟩
              · refine ⟨_, rfl, pk, vk, rfl, .inl (SqL.of hk8), ?_⟩
                refine ⟨G8, E2, js.map V.int, js.map PyData.int, (vk.length : Int), c3, _, _, _, _, rfl, g8, eG8, kE, DDs.ints js, okMs_map (fun x _ => okM_int 1 x), by rw [List.length_map]; omega, fun _ => ⟨js, rfl⟩⟩
      · rintro σ' H' ⟨G', pm, vm, dm, sz, c3, c5, c6, c7, c8, rfl, g, eG, hpm, dv, od, dl, hj⟩
        obtain ⟨js, rfl⟩ := hj (by omega)
        have e := dv.ints_inv
        subst e
        rw [List.length_map] at dl
        exact ⟨G', pm, js, _, _, _, _, _, _, rfl, g, eG, hpm, dl⟩
end
end Kp

set_option Elab.async false
set_option linter.all false
set_option maxRecDepth 100000
namespace Kp
open PySem PySem.Spec PyProof.Rows L2 SlX
/-- bag(script): a new bag -/
def spBag (K : PySem.W.Frag) : Sp := fun vs H Q _ => ∃ (a : Addr) (is : List Int), vs = [.ref a] ∧ SqL K H a (is.map V.int) ∧ ∀ (G H' : Hp) (b : Addr), Same H H' → Same G H' → BagAt G H' b → G b = none → Q (.ref b) H'
section
variable {P : Program} {w : World} {K : PySem.W.Frag} {mg : Str → Option Value} {base : Heap}
abbrev s_Lbag : Stmt := topS 24
abbrev N_Lbag : List Str := ["_law_script", "_law_cell"]
theorem sc_Lbag : FnScope N_Lbag ["_law_script"] (defScope s_Lbag) := ⟨rfl, rfl, rfl, by decide +kernel, rfl, by decide +kernel, by decide +kernel⟩
theorem bt_abs : bootBuiltins "abs" = some (.builtin "abs") := by decide +kernel
theorem cut63 (is : List Int) : cutV (is.map V.int) none (some 63) = (is.take 63).map V.int := by
  unfold cutV
  rw [HT.sIx_none, show ((63 : Int)) = ((63 : Nat) : Int) from rfl, HT.sIx_nat, List.drop_zero, Nat.sub_zero, List.length_map, ← List.map_take]
  congr 1
  rcases Nat.le_total is.length 63 with h | h
  · rw [Nat.min_eq_right h, List.take_of_length_le (Nat.le_refl _), List.take_of_length_le h]
  · rw [Nat.min_eq_left h]
theorem ok_Lbag {f : Addr} {fd : FuncData} (F : Fun K "_law_bag" "_law_bag" s_Lbag f fd) (T : Bi mg) : FnOk P w K mg base CX0 1 f fd ["_law_script"] (spBag K) := by
  refine F.ok sc_Lbag (fun vs H Q E h => ?_) (fun cdv A outer s H vs Q E hr h => ?_)
  · obtain ⟨a, is, rfl, _⟩ := h
    rfl
  · obtain ⟨a, is, rfl, ha, k⟩ := h
    refine ⟨_, (pss_one (ps_ret (pe_lst (pa_cons pe_int (pa_cons pe_int (pa_cons pe_int (pa_cons (pe_lc (own := [("_law_cell", 1)]) (by rfl) sc_Lbag.nd (pi_list (pe_slice sl_list (pv 0) po_none (po_some pe_int))) (blkOk_by (N := N_Lbag) (sc := defScope s_Lbag) (by decide +kernel)) (fun _ _ _ _ _ => (pg_name (i := 1) sc_Lbag.nd rfl (.inl rfl))) (fun _ _ _ _ _ => pts_nil) (fun _ _ _ _ _ => (pe_callB call_abs (by rfl) T.b_abs bt_abs (pa_cons (pv 1) pa_nil)))) pa_nil))))))), ?_⟩
    refine ⟨_, rfl, 63, rfl, a, _, rfl, ha, fun p np => ?_⟩
    rw [cut63]
    have e1 := same_new (o := .lst ((is.take 63).map V.int)) np
    have k1 : upd H p (.lst ((is.take 63).map V.int)) p = some (.lst ((is.take 63).map V.int)) := upd_same
    generalize upd H p (.lst ((is.take 63).map V.int)) = H1 at e1 k1
    refine ⟨p, rfl, ⟨_, SqL.of k1⟩, fun D nD => ?_⟩
    have sl : 1000 ≤ sizeLine := by decide
    refine lc_list (K := K) (xs := (is.take 63).map V.int) (fun j H' => ∃ ns : List Int, Same H1 H' ∧ H' D = some (.lst (ns.map V.int)) ∧ ns.length = j ∧ ∀ n ∈ ns, 0 ≤ n) ⟨[], same_new nD, upd_same, rfl, fun n h => (by cases h)⟩ (fun j H' _ h => (by obtain ⟨_, h, _⟩ := h; exact SqL.of (h _ _ k1))) ?_ ?_
    · rintro j x H' hx ⟨ns, e2, k2, nl, nn⟩
      obtain ⟨i, hi, rfl⟩ := at_map hx
      have jl := (List.getElem?_eq_some_iff.mp hi).1
      rw [List.length_take] at jl
      refine ⟨rfl, _, rfl, i, rfl, ?_⟩
      refine ⟨_, k2, by rw [List.length_map]; omega, ns ++ [if i < 0 then -i else i], same_chg e2 nD, by rw [upd_same, List.map_append]; rfl, by simp [nl], fun n hn => ?_⟩
      rcases List.mem_append.mp hn with h | h
      · exact nn n h
      · rw [List.mem_singleton.mp h]
        split <;> omega
    · rintro H2 ⟨ns, e2, k2, nl, nn⟩
      rw [List.length_map, List.length_take] at nl
      refine ⟨(by show 4 ≤ sizeLine; decide), fun b nb => ?_⟩
      have bD : D ≠ b := ne_of_none k2 nb
      refine k (upd (fun _ => none) D (.lst (ns.map V.int))) _ b (e1.trans (e2.trans (same_new nb))) (fun c o h => ?_) ⟨D, 0, 1234567891, 0, ns, upd_same, upd_same, by decide, by decide, by decide, nn, by omega⟩ (by rw [upd_ne bD.symm])
      by_cases z : c = D
      · rw [z] at h ⊢
        rw [upd_same] at h
        rw [upd_ne bD, k2]
        exact h
      · rw [upd_ne z] at h
        cases h
end
end Kp

set_option Elab.async false
set_option linter.all false
set_option maxRecDepth 100000
namespace Kp
open PySem PySem.Spec PyProof.Rows L2 SlX
/-! ### data written down -/
/-- N is new -/
structure Nw (H N H' : Hp) : Prop where
  fresh : ∀ a o, N a = some o → H a = none
  at_ : Same N H'
  same : Same H H'
def mixH (G N : Hp) : Hp := fun a => match G a with
  | some o => some o
  | none => N a
theorem mix_l {G N : Hp} : Same G (mixH G N) := fun a o h => by
  show (match G a with | some o => some o | none => N a) = _
  rw [h]
theorem mix_none {G N : Hp} {a : Addr} (h : G a = none) : mixH G N a = N a := by
  show (match G a with | some o => some o | none => N a) = _
  rw [h]
theorem mix_r {G H N : Hp} (e : Same G H) (f : ∀ a o, N a = some o → H a = none) : Same N (mixH G N) := fun a o h => by
  rw [mix_none (none_of e (f a o h))]
  exact h
theorem mix_in {G N H : Hp} (a : Same G H) (b : Same N H) : Same (mixH G N) H := fun c o h => by
  cases e : G c with
  | some u =>
    rw [mix_l _ _ e] at h
    cases h
    exact a _ _ e
  | none =>
    rw [mix_none e] at h
    exact b _ _ h
theorem Nw.nil {H : Hp} : Nw H (fun _ => none) H := ⟨fun _ _ h => (by cases h), fun _ _ h => (by cases h), Same.refl H⟩
theorem Nw.trans {H N H1 M H2 : Hp} (a : Nw H N H1) (b : Nw H1 M H2) : Nw H (mixH N M) H2 where
  fresh := fun c o h => by
    cases e : N c with
    | some u => exact a.fresh c u e
    | none =>
      rw [mix_none e] at h
      exact Same.free a.same (b.fresh c o h)
  at_ := mix_in (a.at_.trans b.same) b.at_
  same := a.same.trans b.same
theorem Nw.left {H N H1 M H2 : Hp} (a : Nw H N H1) (b : Nw H1 M H2) : Same N (mixH N M) := mix_l
theorem Nw.right {H N H1 M H2 : Hp} (a : Nw H N H1) (b : Nw H1 M H2) : Same M (mixH N M) := mix_r a.at_ b.fresh
theorem Nw.put {H N H1 : Hp} (a : Nw H N H1) {p : Addr} {o : HO} (n : H1 p = none) : Nw H (upd N p o) (upd H1 p o) where
  fresh := fun c u h => by
    by_cases e : c = p
    · rw [e]; exact Same.free a.same n
    · rw [upd_ne e] at h
      exact a.fresh c u h
  at_ := fun c u h => by
    by_cases e : c = p
    · rw [e] at h ⊢
      rw [upd_same] at h ⊢
      exact h
    · rw [upd_ne e] at h
      rw [upd_ne e]
      exact a.at_ _ _ h
  same := a.same.trans (same_new n)
theorem Nw.keep {H N H1 : Hp} (a : Nw H N H1) {p : Addr} {o : HO} (n : H1 p = none) : Same N (upd N p o) := same_new (none_of a.at_ n)
/-- what is new stands for good from now on -/
theorem Gr.mix {W : Addr → Prop} {G H G1 H1 N H2 : Hp} (g : Gr W G H G1 H1) (wk : ∀ a, W a → H a ≠ none → H1 a ≠ none) (a : Nw H1 N H2) : Gr W G H (mixH G1 N) H2 where
  sub := g.sub.trans mix_l
  fz := mix_in (g.fz.trans a.same) a.at_
  old := fun c o n h => a.same _ _ (g.old c o n h)
  new := fun c n => by
    have h1 := g.new c n
    cases e : G1 c with
    | some u =>
      rw [mix_l _ _ e, ← h1, e]
    | none =>
      rw [mix_none e, ← h1, e]
      cases f : N c with
      | none => rfl
      | some u =>
        have q := a.fresh c u f
        exfalso
        by_cases wc : W c
        · exact wk c wc n q
        · cases hc : H c with
          | none => exact n hc
          | some v =>
            rw [g.old c v wc hc] at q
            cases q
/-- e makes data d anew -/
def tDat (d : PyData) (K : PySem.W.Frag) : TE := fun _ H Q => ∀ (v : V) (N H' : Hp), Nw H N H' → DD K N v d → Q v H'
def tDats (ds : List PyData) (K : PySem.W.Frag) : TA := fun _ H Q => ∀ (vs : List V) (N H' : Hp), Nw H N H' → DDs K N vs ds → Q vs H'
section
variable {X : Cx} {e : Expr} {es : List Expr} {pos : Pos} {d : PyData} {ds : List PyData} {K : PySem.W.Frag}
theorem pe_weak {t t' : TE} (h : PE X e t) (w : ∀ σ H Q, t' σ H Q → t σ H Q) : PE X e t' := ⟨fun pins s σ H Q I q => h.run pins s σ H Q I (w σ H Q q)⟩
theorem pa_weak {t t' : TA} (h : PA X es t) (w : ∀ σ H Q, t' σ H Q → t σ H Q) : PA X es t' := ⟨fun pos pins s σ H Q I q => h.run pos pins s σ H Q I (w σ H Q q)⟩
theorem pd_nil : PA X [] (tDats [] K) := pa_weak pa_nil fun σ H Q q => q [] _ H Nw.nil .nil
theorem pd_cons (h : PE X e (tDat d K)) (hs : PA X es (tDats ds K)) (he : starEach (e :: es) X.env = (false, eval e X.env) :: starEach es X.env := by rfl) : PA X (e :: es) (tDats (d :: ds) K) :=
  pa_weak (pa_cons h hs he) fun σ H Q q v N H1 a hv vs M H2 b hvs => q _ _ H2 (a.trans b) (.cons (hv.up (a.left b)) (hvs.up (a.right b)))
theorem pd_lst (h : PA X es (tDats ds K)) (hl : ds.length ≤ 1000) : PE X (.List es pos) (tDat (.list ds) K) :=
  pe_weak (pe_lst h) fun σ H Q q vs N H1 a hvs => ⟨by rw [hvs.length]; exact Nat.le_trans hl (by decide), fun p np => q _ _ _ (a.put np) (.lst (SqL.of upd_same) (hvs.up (a.keep np)))⟩
theorem pd_tup {x1} (h : PA X es (tDats ds K)) (hl : ds.length ≤ 1000) : PE X (.Tuple es x1 pos) (tDat (.tuple ds) K) :=
  pe_weak (pe_tup h) fun σ H Q q vs N H1 a hvs => ⟨by rw [hvs.length]; exact Nat.le_trans hl (by decide), fun p np => q _ _ _ (a.put np) (.tup (SqT.of upd_same) (hvs.up (a.keep np)))⟩
theorem pd_lit {v : V} (h : PE X e (tC v)) (hd : ∀ N, DD K N v d) : PE X e (tDat d K) := pe_weak h fun σ H Q q => q v _ H Nw.nil (hd _)
theorem pd_dic : PE X (.Dict [] [] pos) (tDat (.dict []) K) := pe_weak pe_dnewK fun σ H Q q p np => q _ _ _ (Nw.nil.put np) (.dic upd_same rfl .nil)
end
end Kp

set_option Elab.async false
set_option linter.all false
set_option maxRecDepth 100000
namespace Kp
open PySem PySem.Spec PyProof.Rows L2 SlX
/-! ### small data: what is shown of it fits -/
structure Sm (k B : Nat) (d : PyData) : Prop where
  sh : d.showable = true
  dp : d.depth ≤ k
  lf : d.leavesShort 50 = true
  wt : d.weight ≤ B
def smB (k B : Nat) (d : PyData) : Bool := d.showable && (decide (d.depth ≤ k) && (d.leavesShort 50 && decide (d.weight ≤ B)))
theorem smB_iff {k B : Nat} {d : PyData} : smB k B d = true ↔ Sm k B d := by
  unfold smB
  simp only [Bool.and_eq_true, decide_eq_true_eq]
  exact ⟨fun ⟨a, b, c, e⟩ => ⟨a, b, c, e⟩, fun h => ⟨h.sh, h.dp, h.lf, h.wt⟩⟩
theorem Sm.mono {k j B C : Nat} {d : PyData} (h : Sm k B d) (e : k ≤ j) (f : B ≤ C) : Sm j C d := ⟨h.sh, Nat.le_trans h.dp e, h.lf, Nat.le_trans h.wt f⟩
theorem Sm.fits {k : Nat} {d : PyData} (h : Sm k 200000 d) : d.shown.length ≤ sizeLine := by
  have a := PyData.shown_le 50 (by decide) d h.lf
  have b : (50 + 2) * d.weight ≤ 52 * 200000 := Nat.mul_le_mul (by omega) h.wt
  rw [sizeLine_eq]
  omega
structure Sms (k B : Nat) (ds : List PyData) : Prop where
  sh : PyData.showableAll ds = true
  dp : PyData.depthAll ds ≤ k
  lf : PyData.leavesShortAll 50 ds = true
  wt : PyData.weightAll ds ≤ B
theorem Sms.nil {k : Nat} : Sms k 0 [] := ⟨by simp [PyData.showableAll], by simp [PyData.depthAll], by simp [PyData.leavesShortAll], by simp [PyData.weightAll]⟩
theorem Sms.cons {k B C : Nat} {d : PyData} {ds : List PyData} (h : Sm k B d) (hs : Sms k C ds) : Sms k (B + 1 + C) (d :: ds) := by
  refine ⟨by simp [PyData.showableAll, h.sh, hs.sh], ?_, by simp [PyData.leavesShortAll, h.lf, hs.lf], ?_⟩
  · simp only [PyData.depthAll]
    exact Nat.max_le.mpr ⟨h.dp, hs.dp⟩
  · simp only [PyData.weightAll]
    have := h.wt
    have := hs.wt
    omega
theorem Sms.of {k B : Nat} : ∀ {ds : List PyData}, (∀ d ∈ ds, Sm k B d) → Sms k (ds.length * (B + 1)) ds
  | [], _ => by simpa using Sms.nil
  | d :: ds, h => by
    have := Sms.cons (h d List.mem_cons_self) (Sms.of fun e he => h e (List.mem_cons_of_mem _ he))
    rw [List.length_cons, Nat.succ_mul, Nat.add_comm _ (B + 1)]
    exact this
theorem Sms.list {k B : Nat} {ds : List PyData} (h : Sms k B ds) : Sm (k + 1) B (.list ds) := ⟨by simp [PyData.showable, h.sh], by simp only [PyData.depth]; have := h.dp; omega, by simp [PyData.leavesShort, h.lf], by simp only [PyData.weight]; exact h.wt⟩
theorem Sms.tup {k B : Nat} {ds : List PyData} (h : Sms k B ds) : Sm (k + 1) B (.tuple ds) := ⟨by simp [PyData.showable, h.sh], by simp only [PyData.depth]; have := h.dp; omega, by simp [PyData.leavesShort, h.lf], by simp only [PyData.weight]; exact h.wt⟩
theorem Sm.list {k B n : Nat} {ds : List PyData} (h : ∀ d ∈ ds, Sm k B d) (l : ds.length ≤ n) : Sm (k + 1) (n * (B + 1)) (.list ds) := ((Sms.of h).list).mono (Nat.le_refl _) (Nat.mul_le_mul_right _ l)
theorem Sm.tup {k B n : Nat} {ds : List PyData} (h : ∀ d ∈ ds, Sm k B d) (l : ds.length ≤ n) : Sm (k + 1) (n * (B + 1)) (.tuple ds) := ((Sms.of h).tup).mono (Nat.le_refl _) (Nat.mul_le_mul_right _ l)
theorem sm_bool (b : Bool) : Sm 0 0 (.bool b) := ⟨by simp [PyData.showable], by simp [PyData.depth], by simp [PyData.leavesShort], by simp [PyData.weight]⟩
theorem sm_none : Sm 0 0 .none := ⟨by simp [PyData.showable], by simp [PyData.depth], by simp [PyData.leavesShort], by simp [PyData.weight]⟩
/-- numbers of few digits -/
theorem ints_ok : ∀ n : Fin 200, smB 0 8 (.int ((n : Nat) : Int)) = true := by decide +kernel
theorem sm_int {i : Int} (h0 : 0 ≤ i) (h1 : i < 200) : Sm 0 8 (.int i) := by
  have lt : i.toNat < 200 := by omega
  have := smB_iff.mp (ints_ok ⟨i.toNat, lt⟩)
  rw [show (((⟨i.toNat, lt⟩ : Fin 200) : Nat) : Int) = i from Int.toNat_of_nonneg h0] at this
  exact this
theorem sm_pair {n m : Nat} {p : Pr} (h : inR n m p) (hn : n < 100) (hm : m < 100) : Sm 1 18 (pairD p) := by
  refine Sm.tup (ds := [.int p.1, .int p.2]) (n := 2) (k := 0) (B := 8) (fun d hd => ?_) (Nat.le_refl _)
  have a := h.1
  have b := h.2
  rcases List.mem_cons.mp hd with e | hd
  · rw [e]; exact sm_int a.1 (by omega)
  · rw [List.mem_singleton.mp hd]; exact sm_int b.1 (by omega)
theorem sm_pairs {n m l : Nat} {ms : List Pr} (h : ∀ p ∈ ms, inR n m p) (hn : n < 100) (hm : m < 100) (hl : ms.length ≤ l) : Sm 2 (l * 19) (.list (ms.map pairD)) := by
  refine Sm.list (k := 1) (B := 18) (fun d hd => ?_) (by rw [List.length_map]; exact hl)
  obtain ⟨p, hp, rfl⟩ := List.mem_map.mp hd
  exact sm_pair (h p hp) hn hm
/-! ### lists that are no long lists of pairs -/
def shortB : PyData → Bool
  | .list ds => decide (ds.length ≤ 2) && ds.all fun e => match e with
    | .tuple es => decide (es.length ≤ 50)
    | _ => true
  | _ => true
theorem fine_short {d : PyData} (h : shortB d = true) : Fine d := by
  constructor
  · rintro ds rfl
    have h' : (decide (ds.length ≤ 2) && ds.all fun e => match e with
      | .tuple es => decide (es.length ≤ 50)
      | _ => true) = true := h
    rw [Bool.and_eq_true, decide_eq_true_eq, List.all_eq_true] at h'
    refine ⟨by omega, fun e he es ee => ?_⟩
    have := h'.2 e he
    rw [ee] at this
    have := of_decide_eq_true this
    omega
  · rintro ms rfl
    have h' := Bool.and_eq_true_iff.mp (show (decide ((ms.map pairD).length ≤ 2) && _) = true from h)
    have := of_decide_eq_true h'.1
    rw [List.length_map] at this
    omega
theorem fine_ints (n : Nat) (h : n < 100000) (i : Int) : Fine (.list (List.replicate n (.int i))) := by
  constructor
  · intro ds e
    injection e with e
    subst e
    refine ⟨by rw [List.length_replicate]; exact h, fun e he es ee => ?_⟩
    rw [List.eq_of_mem_replicate he] at ee
    cases ee
  · intro ms e
    injection e with e
    cases ms with
    | nil => decide
    | cons p ms =>
      cases n with
      | zero => cases e
      | succ n => cases e
theorem fine_pairs {ms : List Pr} (h : ms.length < 64) : Fine (.list (ms.map pairD)) := by
  constructor
  · intro ds e
    injection e with e
    subst e
    refine ⟨by rw [List.length_map]; omega, fun e he es ee => ?_⟩
    obtain ⟨p, _, rfl⟩ := List.mem_map.mp he
    unfold pairD at ee
    injection ee with ee
    rw [← ee]
    show 2 < 100000
    decide
  · intro ns e
    injection e with e
    have := congrArg List.length e
    rw [List.length_map, List.length_map] at this
    omega
theorem fine_list {ds : List PyData} (h : ds.length < 64) (he : ∀ e ∈ ds, ∀ es, e = PyData.tuple es → es.length < 100000) : Fine (.list ds) := by
  constructor
  · intro ds' e
    injection e with e
    subst e
    exact ⟨by omega, he⟩
  · intro ms e
    injection e with e
    have := congrArg List.length e
    rw [List.length_map] at this
    omega
theorem fine_not {d : PyData} (h : isList d = false) : Fine d := ⟨fun ds e => (by rw [e] at h; cases h), fun ms e => (by rw [e] at h; cases h)⟩
/-- what the law hands in -/
structure Odd (d : PyData) : Prop where
  sm : Sm 50 200000 d
  fi : Fine d
/-! ### any value -/
/-- wrapped up to n times -/
structure Deep (n : Nat) (d : PyData) : Prop where
  sm : Sm (n + 1) (n + 1) d
  l : ∀ ds, d = .list ds → ds.length ≤ 1
  t : ∀ ds, d = .tuple ds → ds.length ≤ 1
  lt : ∀ ds, d = .list ds → ∀ e ∈ ds, ∀ es, e = PyData.tuple es → es.length ≤ 1
end Kp
namespace Kp
open PySem PySem.Spec PyProof.Rows L2 SlX
theorem Deep.wl {n : Nat} {d : PyData} (h : Deep n d) : Deep (n + 1) (.list [d]) := by
  refine ⟨(Sms.cons h.sm Sms.nil).list.mono (Nat.le_refl _) (by omega), fun ds e => ?_, fun ds e => (by cases e), fun ds e x hx es ee => ?_⟩
  · injection e with e
    subst e
    exact Nat.le_refl _
  · injection e with e
    subst e
    rw [List.mem_singleton.mp hx] at ee
    exact h.t es ee
theorem Deep.wt {n : Nat} {d : PyData} (h : Deep n d) : Deep (n + 1) (.tuple [d]) := by
  refine ⟨(Sms.cons h.sm Sms.nil).tup.mono (Nat.le_refl _) (by omega), fun ds e => (by cases e), fun ds e => ?_, fun ds e => (by cases e)⟩
  injection e with e
  subst e
  exact Nat.le_refl _
theorem Deep.mono {n m : Nat} {d : PyData} (h : Deep n d) (e : n ≤ m) : Deep m d := ⟨h.sm.mono (by omega) (by omega), h.l, h.t, h.lt⟩
def deep0 : List PyData := [.list [], .tuple [], .str "a", .dict []]
theorem deep0_ok : ∀ d ∈ deep0, Deep 0 d := by
  have h : (deep0.all fun d => smB 1 1 d) = true := by decide +kernel
  rw [List.all_eq_true] at h
  intro d hd
  refine ⟨smB_iff.mp (h d hd), ?_, ?_, ?_⟩
  · rintro ds rfl
    simp [deep0] at hd
    rw [hd]; decide
  · rintro ds rfl
    simp [deep0] at hd
    rw [hd]; decide
  · rintro ds rfl
    simp [deep0] at hd
    rw [hd]
    intro e he
    cases he
theorem odd_deep {n : Nat} {d : PyData} (h : Deep n d) (hn : n ≤ 40) : Odd d := by
  refine ⟨h.sm.mono (by omega) (by omega), ?_⟩
  constructor
  · intro ds e
    have l := h.l ds e
    refine ⟨by omega, fun x hx es ee => ?_⟩
    have := h.lt ds e x hx es ee
    omega
  · intro ms e
    have := h.l _ e
    rw [List.length_map] at this
    omega
end Kp

namespace Kp
open PySem PySem.Spec PyProof.Rows L2 SlX
/-! ### any value -/
abbrev zA : PyData := .str "a"
def odd1 : List PyData := [.none, .bool true, .bool false, .int 0, .int 1, .int (-1), .int (10 ^ 39), .str "", .str "a", .str "A", .str "go", .str "tell", .str "abcdefgh", .str ("abcdefgh" ++ "i" : Str), .str "a b", .str "a\n"]
def odd2 : List PyData := [.list [], .tuple [], .dict [], .list [zA], .tuple [zA], .list [.tuple [zA]], .tuple [.tuple [zA]], .tuple [zA, .str "b"], .tuple [zA, .int 1], .dict [(zA, .tuple [.int 0, zA])]]
def odd3 : List PyData := [.list [.dict [(zA, .tuple [.int 0, zA])]]]
def odd4 : List PyData := [.tuple [.str "join"], .tuple [.str "tell", .tuple [zA]], .tuple [.str "yes"], .tuple [.str "if", .tuple [zA], .tuple [.str "b"], .tuple [.str "yes"], .tuple [.str "no"]]]
def odd5 : List PyData := [.tuple [.str "go", zA, .tuple []], .dict [(.tuple [zA], .int 1)], .tuple [.str "free", .int 0], .tuple [.str "drop", zA, .int 0], .str "join a", .str "back"]
def oddL (deep : PyData) : List PyData := (((odd1 ++ deep :: odd2) ++ odd3) ++ .list [.dict []] :: .list (List.replicate 2500 (.int 0)) :: odd4) ++ odd5
theorem oddL_ok {n : Nat} {deep : PyData} (h : Deep n deep) (hn : n ≤ 40) : ∀ d ∈ oddL deep, Odd d := by
  have go : ∀ l : List PyData, (l.all fun d => smB 10 1000 d && shortB d) = true → ∀ d ∈ l, Odd d := fun l e d hd => by
    have := Bool.and_eq_true_iff.mp (List.all_eq_true.mp e d hd)
    exact ⟨(smB_iff.mp this.1).mono (by decide) (by decide), fine_short this.2⟩
  have h1 := go odd1 (by decide +kernel)
  have h2 := go odd2 (by decide +kernel)
  have h3 := go odd3 (by decide +kernel)
  have h4 := go odd4 (by decide +kernel)
  have h5 := go odd5 (by decide +kernel)
  have h6 := go [.list [.dict []]] (by decide +kernel)
  intro d hd
  unfold oddL at hd
  rcases List.mem_append.mp hd with hd | hd
  · rcases List.mem_append.mp hd with hd | hd
    · rcases List.mem_append.mp hd with hd | hd
      · rcases List.mem_append.mp hd with hd | hd
        · exact h1 d hd
        · rcases List.mem_cons.mp hd with e | hd
          · rw [e]; exact odd_deep h hn
          · exact h2 d hd
      · exact h3 d hd
    · rcases List.mem_cons.mp hd with e | hd
      · exact h6 d (by rw [e]; exact List.mem_cons_self)
      · rcases List.mem_cons.mp hd with e | hd
        · rw [e]
          refine ⟨(Sm.list (k := 0) (B := 8) (n := 2500) (fun e he => ?_) (by rw [List.length_replicate]; exact Nat.le_refl _)).mono (by decide) (by decide), fine_ints 2500 (by decide) 0⟩
          rw [List.eq_of_mem_replicate he]
          exact sm_int (by decide) (by decide)
        · exact h4 d hd
  · exact h5 d hd
end Kp

set_option Elab.async false
set_option linter.all false
set_option maxRecDepth 100000
namespace Kp
open PySem PySem.Spec PyProof.Rows L2 SlX
/-! ### more data written down -/
theorem Nw.over {H N H1 : Hp} {p : Addr} {o u : HO} (n : H p = none) (a : Nw (upd H p u) N H1) : Nw H (upd N p o) (upd H1 p o) where
  fresh := fun c w h => by
    by_cases e : c = p
    · rw [e]; exact n
    · rw [upd_ne e] at h
      have := a.fresh c w h
      rw [upd_ne e] at this
      exact this
  at_ := fun c w h => by
    by_cases e : c = p
    · rw [e] at h ⊢
      rw [upd_same] at h ⊢
      exact h
    · rw [upd_ne e] at h
      rw [upd_ne e]
      exact a.at_ _ _ h
  same := fun c w h => by
    have e : c ≠ p := ne_of_none h n
    rw [upd_ne e]
    exact a.same _ _ (by rw [upd_ne e]; exact h)
theorem Nw.overK {H N H1 : Hp} {p : Addr} {o u : HO} (a : Nw (upd H p u) N H1) : Same N (upd N p o) := same_new (by
  cases e : N p with
  | none => rfl
  | some w =>
    have := a.fresh p w e
    rw [upd_same] at this
    cases this)
section
variable {X : Cx} {e k : Expr} {pos kp : Pos} {d : PyData} {K : PySem.W.Frag}
/-- {"k": e} -/
theorem pd_disp1 {z : Str} {j : Nat} (h : PE X e (tDat d K)) : PE X (.Dict [some (.Constant (.str z) j kp)] [e] pos) (tDat (.dict [(.str z, d)]) K) :=
  pe_weak (pe_disp (pps_cons pe_str h pps_nil) (by rfl) (by rfl) (fun z => by cases z) (by show 1 ≤ 15; decide)) fun σ H Q q p np => by
    show tDat d K σ (upd H p (.dK [])) _
    intro v N H1 a hv
    refine ⟨a.same _ _ upd_same, [(Sum.inr z, v)], rfl, (by show 1 ≤ 15; decide), ?_⟩
    exact q _ _ _ (a.over (o := .dK [(Sum.inr z, v)]) np) (.dic upd_same rfl (.cons (hv.up (a.overK)) .nil))
/-- {(k,): e} -/
theorem pd_disp1T {z : Str} {i : Int} {k e : Expr} (hu : X.A.units + 1 < cLine) (hk : PE X k (tTup (tCons (tC (.str z)) tNil))) (h : PE X e (tC (.int i))) : PE X (.Dict [some k] [e] pos) (tDat (.dict [(.tuple [.str z], .int i)]) K) :=
  pe_weak (pe_disp1T hu hk h) fun σ H Q q p np => by
    refine ⟨by show 1 ≤ sizeLine; decide, fun t nt => ?_⟩
    have pt : p ≠ t := fun e => by
      rw [e, upd_same] at nt
      cases nt
    refine ⟨t, [Sum.inr z], rfl, upd_same, by rw [upd_ne pt]; exact upd_same, ?_⟩
    exact q _ _ _ (Nw.over (o := .dT [([Sum.inr z], .int i)]) np (Nw.nil.put nt)) (.dit upd_same rfl (.cons (.int i) .nil))
theorem pd_neg {i : Int} (h : PE X e (tC (.int i))) : PE X (.UnaryOp .USub e pos) (tDat (.int (-i)) K) := pe_weak (pe_un un_neg h) fun σ H Q q => ⟨_, rfl, q _ _ _ Nw.nil (.int _)⟩
theorem flat_rep (n : Nat) (v : V) : (List.replicate n [v]).flatten = List.replicate n v := by
  induction n with
  | zero => rfl
  | succ n ih => rw [List.replicate_succ, List.flatten_cons, ih, List.replicate_succ]; rfl
theorem DDs.rep {G : Hp} {v : V} {d : PyData} (h : DD K G v d) (n : Nat) : DDs K G (List.replicate n v) (List.replicate n d) := by
  induction n with
  | zero => exact .nil
  | succ n ih => rw [List.replicate_succ, List.replicate_succ]; exact .cons h ih
/-- [i] * n -/
theorem pd_rep {i : Int} {n : Nat} {k : Expr} (hn : n ≤ 10000) (h : PE X e (tC (.int i))) (hk : PE X k (tC (.int n))) {lp : Pos} (he : PA X [e] (tCons (tC (.int i)) tNil)) : PE X (.BinOp (.List [e] lp) .Mult k pos) (tDat (.list (List.replicate n (.int i))) K) :=
  pe_weak (pe_op op_rep (pe_lst he) hk) fun σ H Q q => by
    refine ⟨by show 1 ≤ sizeLine; decide, fun p np => ?_⟩
    have sl : 10000 ≤ sizeLine := by decide
    refine ⟨p, n, [.int i], rfl, rfl, upd_same, by omega, by omega, by rw [List.length_singleton, Int.toNat_natCast]; omega, fun r nr => ?_⟩
    rw [Int.toNat_natCast, flat_rep]
    have n0 : Nw H (upd (fun _ => none) p (.lst [.int i])) (upd H p (.lst [.int i])) := Nw.nil.put np
    exact q _ _ _ (n0.put nr) (.lst (SqL.of upd_same) (.rep (.int i) n))
end
/-! ### a def that draws and makes -/
structure Dr (b : Addr) (G H G' H' : Hp) : Prop where
  g : Gr (· = b) G H G' H'
  bs : Bs b G' H'
section
variable {b p : Addr} {G H G' H' : Hp} {o : HO}
theorem Dr.zero (s : Bs b G H) : Dr b G H G H := ⟨Gr.refl s.fz, s⟩
theorem Dr.draw (s : Dr b G H G' H') (B : Bs b G' (upd H' b o)) : Dr b G H G' (upd H' b o) := ⟨s.g.chg s.bs.gb (.inl rfl), B⟩
theorem Dr.ne (s : Dr b G H G' H') (n : H' p = none) : p ≠ b := fun e => s.bs.bag.some (by rw [← e]; exact n)
theorem Dr.old (s : Dr b G H G' H') (n : H' p = none) : H p = none := Gr.freeB s.bs.bag s.g n
theorem Dr.junk (s : Dr b G H G' H') (n : H' p = none) : Dr b G H G' (upd H' p o) := ⟨s.g.more (same_new n), ⟨s.bs.fz.trans (same_new n), s.bs.bag.sameH (same_new n) (Same.refl _), s.bs.gb⟩⟩
theorem Dr.new (s : Dr b G H G' H') (n : H' p = none) : Dr b G H (upd G' p o) (upd H' p o) := by
  have gn := none_of s.bs.fz n
  have g := s.g.add (o := o) (s.old n) n
  refine ⟨g, g.fz, s.bs.bag.sameH (same_new n) (same_new gn), ?_⟩
  rw [upd_ne (s.ne n).symm]
  exact s.bs.gb
theorem Dr.more {H2 : Hp} (s : Dr b G H G' H') (e : Same H' H2) : Dr b G H G' H2 := ⟨s.g.more e, ⟨s.bs.fz.trans e, s.bs.bag.sameH e (Same.refl _), s.bs.gb⟩⟩
theorem Dr.mix {N H2 : Hp} (s : Dr b G H G' H') (a : Nw H' N H2) : Dr b G H (mixH G' N) H2 := by
  have g := s.g.mix (fun x e _ => by rw [show x = b from e]; exact s.bs.bag.some) a
  refine ⟨g, g.fz, s.bs.bag.sameH a.same mix_l, ?_⟩
  rw [mix_none s.bs.gb]
  cases e : N b with
  | none => rfl
  | some u => exact absurd (a.fresh b u e) s.bs.bag.some
theorem Dr.mixr {N H2 : Hp} (s : Dr b G H G' H') (a : Nw H' N H2) : Same N (mixH G' N) := mix_r s.bs.fz a.fresh
theorem Dr.callB {G2 H2 : Hp} (s : Dr b G H G' H') (g : Gr (· = b) G' H' G2 H2) (h : BagAt G2 H2 b) : Dr b G H G2 H2 := ⟨s.g.trans (fun x e _ => by rw [show x = b from e]; exact s.bs.bag.some) g, s.bs.gr g h⟩
theorem Dr.call0 {G2 H2 : Hp} (s : Dr b G H G' H') (g : Gr W0 G' H' G2 H2) : Dr b G H G2 H2 := s.callB g.wide (g.bag0 s.bs.bag)
end
end Kp

namespace Kp
open PySem PySem.Spec PyProof.Rows L2 SlX
/-- .. and has a list in hand -/
structure Li (K : PySem.W.Frag) (b : Addr) (G H G' H' : Hp) (p : Addr) (vs : List V) (ds : List PyData) : Prop where
  dr : Dr b G H G' H'
  at_ : H' p = some (.lst vs)
  dd : DDs K G' vs ds
theorem Li.pre {K : PySem.W.Frag} {b p p2 : Addr} {G H G' H' N H2 : Hp} {vs vs2 : List V} {ds : List PyData} (s : Li K b G H G' H' p vs ds) (a : Nw H' N H2) (n2 : H2 p2 = none) : upd H2 p2 (.lst vs2) p = some (.lst vs) := by
  have h := a.same _ _ s.at_
  rw [upd_ne (ne_of_none h n2)]
  exact h
theorem Li.cat {K : PySem.W.Frag} {b p p2 q : Addr} {G H G' H' N H2 : Hp} {vs vs2 : List V} {ds ds2 : List PyData} (s : Li K b G H G' H' p vs ds) (a : Nw H' N H2) (dd : DDs K (mixH G' N) vs2 ds2) (n2 : H2 p2 = none) (nq : upd H2 p2 (.lst vs2) q = none) :
    Li K b G H (mixH G' N) (upd (upd H2 p2 (.lst vs2)) q (.lst (vs ++ vs2))) q (vs ++ vs2) (ds ++ ds2) :=
  ⟨((s.dr.mix a).junk n2).junk nq, upd_same, (s.dd.up mix_l).append dd⟩
/-- odd(bag): any value -/
def spOdd (K : PySem.W.Frag) : Sp := fun vs H Q _ => ∃ (b : Addr) (G : Hp), vs = [.ref b] ∧ Bs b G H ∧ GoB b G H (fun G' _ v => ∃ d, DD K G' v d ∧ Odd d) Q
section
variable {P : Program} {w : World} {K : PySem.W.Frag} {mg : Str → Option Value} {base : Heap}
abbrev s_Lodd : Stmt := topS 30
abbrev N_Lodd : List Str := ["_law_bag_here", "_law_deep", "_law_letters", "_law_k", "_law_some"]
theorem sc_Lodd : FnScope N_Lodd ["_law_bag_here"] (defScope s_Lodd) := ⟨rfl, rfl, rfl, by decide +kernel, rfl, by decide +kernel, by decide +kernel⟩
theorem ok_Lodd {f : Addr} {fd : FuncData} (F : Fun K "_law_odd" "_law_odd" s_Lodd f fd) (T : Bi mg) (TK : CTake P w K mg base) (CO : COne P w K mg base) : FnOk P w K mg base CX0 3 f fd ["_law_bag_here"] (spOdd K) := by
  refine F.ok sc_Lodd (fun vs H Q E h => ?_) (fun cdv A outer s H vs Q E hr h => ?_)
  · obtain ⟨b, G, rfl, _⟩ := h
    rfl
  · obtain ⟨b, G, rfl, B, k⟩ := h
    have sl : 10000 ≤ sizeLine := by decide
    refine ⟨_, (pss_cons (ps_par (i := 1) (j := 2) (by rfl) sc_Lodd.nd rfl rfl (by decide) rfl rfl (pa_cons (pe_cal CO hr pass0 (pa_cons (pv 0) (pa_cons (pe_lst (pd_cons (K := K) (pd_lst pd_nil (by decide)) (pd_cons (pd_tup pd_nil (by decide)) (pd_cons (pd_lit pe_str (fun _ => .str _)) (pd_cons pd_dic pd_nil))))) pa_nil))) (pa_cons pe_str pa_nil)) (by rfl))
    (pss_cons (ps_for PassesOwn.never rfl (pi_range1 (by rfl) T.b_range (pa_cons (pe_cal TK (hr.mono (by decide)) pass0 (pa_cons (pv 0) (pa_cons pe_int pa_nil))) pa_nil)) (pg_name (i := 3) sc_Lodd.nd rfl (.inl rfl))
      (pss_one (ps_set (i := 1) sc_Lodd.nd rfl (.inl rfl) (pe_ifExp (pt_cmpR op_eq (pe_cal TK (hr.mono (by decide)) pass0 (pa_cons (pv 0) (pa_cons pe_int pa_nil))) pe_int (nomark _)) (pe_lst (pa_cons (pv 1) pa_nil)) (pe_tup (pa_cons (pv 1) pa_nil))))))
    (pss_cons (ps_set (i := 4) sc_Lodd.nd rfl (.inl rfl) (pe_lst (pa_cons pe_non (pa_cons pe_bl (pa_cons pe_bl (pa_cons pe_int (pa_cons pe_int (pa_cons (pe_un un_neg pe_int) (pa_cons (pe_op op_pow pe_int pe_int) (pa_cons pe_str (pa_cons pe_str (pa_cons pe_str (pa_cons pe_str (pa_cons pe_str (pa_cons (pv 2) (pa_cons (pe_op op_add_str (pv 2) pe_str) (pa_cons pe_str (pa_cons pe_str pa_nil))))))))))))))))))
    (pss_cons (ps_set (i := 4) sc_Lodd.nd rfl (.inl rfl) (pe_op op_cat (pv 4) (pe_lst (pa_cons (pv 1) (pd_cons (K := K) (pd_lst pd_nil (by decide)) (pd_cons (pd_tup pd_nil (by decide)) (pd_cons pd_dic (pd_cons (pd_lst (pd_cons (pd_lit pe_str (fun _ => .str _)) pd_nil) (by decide)) (pd_cons (pd_tup (pd_cons (pd_lit pe_str (fun _ => .str _)) pd_nil) (by decide)) (pd_cons (pd_lst (pd_cons (pd_tup (pd_cons (pd_lit pe_str (fun _ => .str _)) pd_nil) (by decide)) pd_nil) (by decide)) (pd_cons (pd_tup (pd_cons (pd_tup (pd_cons (pd_lit pe_str (fun _ => .str _)) pd_nil) (by decide)) pd_nil) (by decide)) (pd_cons (pd_tup (pd_cons (pd_lit pe_str (fun _ => .str _)) (pd_cons (pd_lit pe_str (fun _ => .str _)) pd_nil)) (by decide)) (pd_cons (pd_tup (pd_cons (pd_lit pe_str (fun _ => .str _)) (pd_cons (pd_lit pe_int (fun _ => .int _)) pd_nil)) (by decide)) (pd_cons (pd_disp1 (pd_tup (pd_cons (pd_lit pe_int (fun _ => .int _)) (pd_cons (pd_lit pe_str (fun _ => .str _)) pd_nil)) (by decide))) pd_nil))))))))))))))
    (pss_cons (ps_set (i := 4) sc_Lodd.nd rfl (.inl rfl) (pe_op op_cat (pv 4) (pe_lst (pd_cons (K := K) (pd_lst (pd_cons (pd_disp1 (pd_tup (pd_cons (pd_lit pe_int (fun _ => .int _)) (pd_cons (pd_lit pe_str (fun _ => .str _)) pd_nil)) (by decide))) pd_nil) (by decide)) pd_nil))))
    (pss_cons (ps_set (i := 4) sc_Lodd.nd rfl (.inl rfl) (pe_op op_cat (pv 4) (pe_lst (pd_cons (K := K) (pd_lst (pd_cons pd_dic pd_nil) (by decide)) (pd_cons (pd_rep (n := 2500) (by decide) pe_int pe_int (pa_cons pe_int pa_nil)) (pd_cons (pd_tup (pd_cons (pd_lit pe_str (fun _ => .str _)) pd_nil) (by decide)) (pd_cons (pd_tup (pd_cons (pd_lit pe_str (fun _ => .str _)) (pd_cons (pd_tup (pd_cons (pd_lit pe_str (fun _ => .str _)) pd_nil) (by decide)) pd_nil)) (by decide)) (pd_cons (pd_tup (pd_cons (pd_lit pe_str (fun _ => .str _)) pd_nil) (by decide)) (pd_cons (pd_tup (pd_cons (pd_lit pe_str (fun _ => .str _)) (pd_cons (pd_tup (pd_cons (pd_lit pe_str (fun _ => .str _)) pd_nil) (by decide)) (pd_cons (pd_tup (pd_cons (pd_lit pe_str (fun _ => .str _)) pd_nil) (by decide)) (pd_cons (pd_tup (pd_cons (pd_lit pe_str (fun _ => .str _)) pd_nil) (by decide)) (pd_cons (pd_tup (pd_cons (pd_lit pe_str (fun _ => .str _)) pd_nil) (by decide)) pd_nil))))) (by decide)) pd_nil)))))))))
    (pss_one (ps_ret (pe_cal CO hr pass0 (pa_cons (pv 0) (pa_cons (pe_op op_cat (pv 4) (pe_lst (pd_cons (K := K) (pd_tup (pd_cons (pd_lit pe_str (fun _ => .str _)) (pd_cons (pd_lit pe_str (fun _ => .str _)) (pd_cons (pd_tup pd_nil (by decide)) pd_nil))) (by decide)) (pd_cons (pd_disp1T (hu_of hr) (pe_tup (pa_cons pe_str pa_nil)) pe_int) (pd_cons (pd_tup (pd_cons (pd_lit pe_str (fun _ => .str _)) (pd_cons (pd_lit pe_int (fun _ => .int _)) pd_nil)) (by decide)) (pd_cons (pd_tup (pd_cons (pd_lit pe_str (fun _ => .str _)) (pd_cons (pd_lit pe_str (fun _ => .str _)) (pd_cons (pd_lit pe_int (fun _ => .int _)) pd_nil))) (by decide)) (pd_cons (pd_lit pe_str (fun _ => .str _)) (pd_cons (pd_lit pe_str (fun _ => .str _)) pd_nil)))))))) pa_nil))))))))))), ?_⟩
    have s0 := Dr.zero B
    refine ⟨_, rfl, fun vs N H1 a dd => ⟨by rw [dd.length]; decide, fun p np => ?_⟩⟩
    have s1 := s0.mix a
    have dd1 := dd.up (s0.mixr a)
    have s2 := s1.junk (o := .lst vs) np
    have vl := dd.length
    refine ⟨b, p, mixH G N, vs, rfl, s2.bs, SqL.of upd_same, s1.ne np, by rw [vl]; decide, by rw [vl]; decide, fun i v o hv B2 => ?_⟩
    have s3 := s2.draw B2
    obtain ⟨d, hd, dv⟩ := dd1.get hv
    have dp := deep0_ok d (List.mem_of_getElem? hd)
    clear s1 s2 B2 dd1
    generalize mixH G N = G1 at s3 dv
    generalize upd (upd H1 p (.lst vs)) b o = H2 at s3
    refine ⟨_, _, rfl, ?_⟩
    refine ⟨_, rfl, b, 24, G1, rfl, s3.bs, by decide, by decide, fun n o1 z0 z1 B1 => ?_⟩
    have s4 := s3.draw B1
    generalize upd H2 b o1 = H3 at s4
    refine ⟨n, rfl, by omega, by omega, ?_⟩
    refine for_range (lo := 0) (n := n.toNat) (fun i σ' H' => ∃ (G' : Hp) (v : V) (d : PyData) (c3 : Option V), σ' = [some (.ref b), some v, some (.str "abcdefgh"), c3, none] ∧ Dr b G H G' H' ∧ DD K G' v d ∧ Deep i d)
      ⟨G1, v, d, none, rfl, s4, dv, dp⟩ ?_ ?_
    · rintro i σ' H' hi ⟨G', v, d, c3, rfl, s5, dv, dp⟩
      refine ⟨_, rfl, b, 2, G', rfl, s5.bs, by decide, by decide, fun j o2 j0 j1 B1 => ?_⟩
      have s6 := s5.draw B1
      generalize upd H' b o2 = H4 at s6
      refine ⟨rfl, _, rfl, ite2 (fun c => ?_) fun c => ?_⟩
      · refine ⟨_, rfl, by show 1 ≤ sizeLine; decide, fun p np => ?_⟩
        have s7 := s6.new (o := .lst [v]) np
        exact ⟨_, _, _, _, rfl, s7, .lst (SqL.of upd_same) (.one (dv.up (same_new (none_of s6.bs.fz np)))), dp.wl⟩
      · refine ⟨_, rfl, by show 1 ≤ sizeLine; decide, fun p np => ?_⟩
        have s7 := s6.new (o := .tup [v]) np
        exact ⟨_, _, _, _, rfl, s7, .tup (SqT.of upd_same) (.one (dv.up (same_new (none_of s6.bs.fz np)))), dp.wt⟩
    · clear s4 s3 dv dp hd dd
      rintro σ' H' ⟨G', v, d, c3, rfl, s5, dv, dp⟩
      have okL := oddL_ok (dp.mono (show n.toNat ≤ 40 by omega)) (Nat.le_refl _)
      refine ⟨_, rfl, _, _, rfl, rfl, ⟨by decide, by decide, by decide⟩, _, rfl, _, rfl, _, _, rfl, rfl, by decide, ?_⟩
      refine ⟨by show 16 ≤ sizeLine; decide, fun p1 n1 => ?_⟩
      have t1 : DDs K G' [V.non, .bl true, .bl false, .int 0, .int 1, .int (-1), .int (10 ^ 39), .str "", .str "a", .str "A", .str "go", .str "tell", .str "abcdefgh", .str ("abcdefgh" ++ "i" : Str), .str "a b", .str "a\n"] odd1 :=
        .cons .non (.cons (.bl _) (.cons (.bl _) (.cons (.int _) (.cons (.int _) (.cons (.int _) (.cons (.int _) (.cons (.str _) (.cons (.str _) (.cons (.str _) (.cons (.str _) (.cons (.str _) (.cons (.str _) (.cons (.str _) (.cons (.str _) (.cons (.str _) .nil)))))))))))))))
      have l1 : Li K b G H G' _ p1 _ odd1 := ⟨s5.junk n1, upd_same, t1⟩
      refine ⟨_, rfl, _, rfl, fun vs2 N2 H2 a2 dd2 => ?_⟩
      have v2 : vs2.length = 10 := dd2.length
      refine ⟨(by show vs2.length + 1 ≤ sizeLine; omega), fun p2 n2 => ⟨p1, p2, _, _, rfl, rfl, l1.pre a2 n2, upd_same, (by show 16 + (vs2.length + 1) ≤ sizeLine; omega), fun q2 nq2 => ?_⟩⟩
      have l2 := l1.cat a2 (.cons (dv.up mix_l) (dd2.up (l1.dr.mixr a2))) n2 nq2
      clear l1 t1
      have w2 := l2.dd.length
      have w2 : _ = 27 := l2.dd.length
      clear s5 dv dp
      generalize mixH G' N2 = G2 at l2
      generalize upd (upd H2 p2 (.lst (v :: vs2))) q2 _ = H2' at l2
      generalize _ ++ v :: vs2 = L2 at l2 w2
      refine ⟨_, rfl, fun vs3 N3 H3 a3 dd3 => ?_⟩
      have v3 : vs3.length = 1 := dd3.length
      refine ⟨(by omega), fun p3 n3 => ⟨q2, p3, _, _, rfl, rfl, l2.pre a3 n3, upd_same, by omega, fun q3 nq3 => ?_⟩⟩
      have l3 := l2.cat a3 (dd3.up (l2.dr.mixr a3)) n3 nq3
      have w3 : (L2 ++ vs3).length = 28 := l3.dd.length
      clear l2 a3
      generalize mixH G2 N3 = G3 at l3
      generalize upd (upd H3 p3 (.lst vs3)) q3 (.lst (L2 ++ vs3)) = H3' at l3
      generalize L2 ++ vs3 = L3 at l3 w3
      refine ⟨_, rfl, fun vs4 N4 H4 a4 dd4 => ?_⟩
      have v4 : vs4.length = 6 := dd4.length
      refine ⟨(by omega), fun p4 n4 => ⟨q3, p4, _, _, rfl, rfl, l3.pre a4 n4, upd_same, by omega, fun q4 nq4 => ?_⟩⟩
      have l4 := l3.cat a4 (dd4.up (l3.dr.mixr a4)) n4 nq4
      have w4 : (L3 ++ vs4).length = 34 := l4.dd.length
      clear l3 a4
      generalize mixH G3 N4 = G4 at l4
      generalize upd (upd H4 p4 (.lst vs4)) q4 (.lst (L3 ++ vs4)) = H4' at l4
      generalize L3 ++ vs4 = L4 at l4 w4
      refine ⟨_, rfl, _, rfl, fun vs5 N5 H5 a5 dd5 => ?_⟩
      have v5 : vs5.length = 6 := dd5.length
      refine ⟨(by omega), fun p5 n5 => ⟨q4, p5, _, _, rfl, rfl, l4.pre a5 n5, upd_same, by omega, fun q5 nq5 => ?_⟩⟩
      have l5 := l4.cat a5 (dd5.up (l4.dr.mixr a5)) n5 nq5
      have w5 : (L4 ++ vs5).length = 40 := l5.dd.length
      have nb := ((l4.dr.mix a5).junk (o := .lst vs5) n5).ne nq5
      clear l4 a5
      generalize mixH G4 N5 = G5 at l5
      generalize upd (upd H5 p5 (.lst vs5)) q5 (.lst (L4 ++ vs5)) = H5' at l5
      generalize L4 ++ vs5 = L5 at l5 w5
      refine ⟨b, q5, G5, L5, rfl, l5.dr.bs, SqL.of l5.at_, nb, by omega, by omega, fun i v o hv B2 => ?_⟩
      obtain ⟨e, he, hd⟩ := l5.dd.get hv
      have s6 := l5.dr.draw B2
      exact k _ _ _ s6.g s6.bs.bag ⟨e, hd, okL e (List.mem_of_getElem? he)⟩
end
end Kp

set_option Elab.async false
set_option linter.all false
set_option maxRecDepth 100000
namespace Kp
open PySem PySem.Spec PyProof.Rows L2 SlX
theorem Dr.fix {b p : Addr} {G H G' H' : Hp} {o : HO} (s : Dr b G H G' H') (hb : H b ≠ none) (n : H p = none) (h : H' p = some o) : Dr b G H (upd G' p o) H' := by
  have g := s.g.freeze n h
  refine ⟨g, g.fz, ?_, ?_⟩
  · obtain ⟨l, z0, z1, z2, ns, h1, h2, r⟩ := s.bs.bag
    refine ⟨l, z0, z1, z2, ns, h1, ?_, r⟩
    by_cases e : l = p
    · have h3 := s.bs.fz _ _ h2
      rw [e, h] at h3
      rw [e, upd_same]
      exact h3
    · rw [upd_ne e]; exact h2
  · by_cases e : b = p
    · exact absurd (by rw [e]; exact n) hb
    · rw [upd_ne e]; exact s.bs.gb
theorem Dr.chg {b p : Addr} {G H G' H' : Hp} {o : HO} (s : Dr b G H G' H') (n : G' p = none) (n0 : H p = none) (pb : p ≠ b) : Dr b G H G' (upd H' p o) :=
  ⟨s.g.chg n (.inr n0), (s.g.chg (o := o) n (.inr n0)).fz, s.bs.bag.ne pb.symm, s.bs.gb⟩
theorem DDs.perm {K : PySem.W.Frag} {G : Hp} {vs ys : List V} (p : ys.Perm vs) : ∀ {ds : List PyData}, DDs K G vs ds → ∃ es, es.Perm ds ∧ DDs K G ys es := by
  induction p with
  | nil => exact fun h => ⟨_, .refl _, h⟩
  | cons x p ih =>
    intro ds h
    cases h with
    | cons a b =>
      obtain ⟨es, q, r⟩ := ih b
      exact ⟨_, q.cons _, .cons a r⟩
  | swap x y l =>
    intro ds h
    cases h with
    | cons a b =>
      cases b with
      | cons b c => exact ⟨_, .swap _ _ _, .cons b (.cons a c)⟩
  | trans p q ih1 ih2 =>
    intro ds h
    obtain ⟨es, r, h1⟩ := ih2 h
    obtain ⟨fs, r2, h2⟩ := ih1 h1
    exact ⟨_, r2.trans r, h2⟩
theorem perm_pairs {es : List PyData} {ms : List Pr} (p : es.Perm (ms.map pairD)) : ∃ ns : List Pr, es = ns.map pairD ∧ ns.Perm ms := by
  refine ⟨es.map toPr, ?_, ?_⟩
  · rw [List.map_map]
    conv => lhs; rw [← List.map_id es]
    refine List.map_congr_left fun v hv => ?_
    obtain ⟨x, _, rfl⟩ := List.mem_map.mp (p.mem_iff.mp hv)
    rfl
  · have := p.map toPr
    rw [List.map_map] at this
    exact (show (ms.map (toPr ∘ pairD) = ms) from List.map_id' ms) ▸ this
theorem cut_to {xs : List V} {n : Nat} (h : n ≤ xs.length) : cutV xs none (some (n : Int)) = xs.take n := by
  unfold cutV
  rw [HT.sIx_none, HT.sIx_nat, List.drop_zero, Nat.sub_zero, Nat.min_eq_left h]
theorem cut_from {xs : List V} {n : Nat} (h : n ≤ xs.length) : cutV xs (some (n : Int)) none = xs.drop n := by
  unfold cutV
  rw [HT.sIx_none, HT.sIx_nat, Nat.min_eq_left h]
  exact List.take_of_length_le (by rw [List.length_drop]; exact Nat.le_refl _)
/-- things in the lists that the law hands in -/
structure El (d : PyData) : Prop where
  sm : Sm 10 1000 d
  tp : ∀ es, d = .tuple es → es.length < 100000
theorem odd_list {ds : List PyData} (h : ∀ d ∈ ds, El d) (l : ds.length < 64) : Odd (.list ds) :=
  ⟨(Sm.list (fun d hd => (h d hd).sm) (show ds.length ≤ 64 by omega)).mono (by decide) (by decide), fine_list l fun e he es ee => (h e he).tp es ee⟩
theorem odd_el {d : PyData} (h : El d) (f : isList d = false) : Odd d := ⟨h.sm.mono (by decide) (by decide), fine_not f⟩
theorem el_pair {n m : Nat} {p : Pr} (h : inR n m p) (hn : n < 100) (hm : m < 100) : El (pairD p) := ⟨(sm_pair h hn hm).mono (by decide) (by decide), fun es e => by
  unfold pairD at e
  injection e with e
  rw [← e]
  show 2 < 100000
  decide⟩
theorem el_tup {ds : List PyData} (h : ∀ d ∈ ds, Sm 2 20 d) (l : ds.length ≤ 4) : El (.tuple ds) := ⟨(Sm.tup h l).mono (by decide) (by decide), fun es e => by
  injection e with e
  subst e
  omega⟩
theorem el_list {ds : List PyData} (h : ∀ d ∈ ds, Sm 2 20 d) (l : ds.length ≤ 4) : El (.list ds) := ⟨(Sm.list h l).mono (by decide) (by decide), fun es e => (by cases e)⟩
theorem sm_neg1 : Sm 0 8 (.int (-1)) := smB_iff.mp (by decide +kernel)
/-- bent(bag, one, other, some) -/
def spBent (K : PySem.W.Frag) : Sp := fun vs H Q _ => ∃ (b a1 a2 a : Addr) (G : Hp) (x1 x2 xs : List V) (ins : List Str) (r1 r2 : List Row) (ms : List Pr), vs = [.ref b, .ref a1, .ref a2, .ref a] ∧ Bs b G H ∧ Ru K G a1 x1 ins r1 ∧ Ru K G a2 x2 ins r2 ∧ OkIns ins ∧ SqL K G a xs ∧ DDs K G xs (ms.map pairD) ∧ (∀ p ∈ ms, inR r1.length r2.length p) ∧ ms ≠ [] ∧ ms.length + 1 + r1.length * r2.length < 64 ∧
  GoB b G H (fun G' _ v => ∃ d, DD K G' v d ∧ Odd d) Q
theorem listOf_k {X : Cx} {K : PySem.W.Frag} (h : X.K = K := by rfl) : CallR X (.type "list") (fun xs H Q => ∃ p ys, xs = [.ref p] ∧ (SqL K H p ys ∨ SqT K H p ys) ∧ ∀ l, H l = none → Q (.ref l) (upd H l (.lst ys))) := by
  subst h
  exact call_list_of
theorem pg_tupk {X : Cx} {K : PySem.W.Frag} {es : List Expr} {j : Nat} {t : TGs} {pos : Pos} (n : Nat) (hc : X.calm = true) (h : PGs X es t) (hK : X.K = K := by rfl)
    (hn : (assignEach es X.env).length = n := by rfl) (hst : (assignEach es X.env).findIdx? (·.1) = none := by rfl) : PG X (.Tuple es j pos) (gTup K n t) := by
  subst hK
  exact pg_tup hc h hn hst
section
variable {P : Program} {w : World} {K : PySem.W.Frag} {mg : Str → Option Value} {base : Heap}
abbrev COdd (P : Program) (w : World) (K : PySem.W.Frag) (mg : Str → Option Value) (base : Heap) : Prop := Cal P w K mg base CX0 3 "_law_odd" ["_law_bag_here"] (spOdd K)
abbrev CAllBehind (P : Program) (w : World) (K : PySem.W.Frag) (mg : Str → Option Value) (base : Heap) : Prop := Cal P w K mg base CX0 1 "_law_all_behind" ["_law_one_here", "_law_other", "_law_some"] (spAllBehind K)
theorem bt_tuple : bootBuiltins "tuple" = some (.type "tuple") := by decide +kernel
theorem bt_len : bootBuiltins "len" = some (.builtin "len") := by decide +kernel
abbrev s_Lbent : Stmt := topS 41
abbrev N_Lbent : List Str := ["_law_bag_here", "_law_one_here", "_law_other", "_law_some", "_law_found", "_law_way", "_law_more", "_law_at", "_law_odd_here", "_law_here", "_law_there", "_law_part"]
theorem sc_Lbent : FnScope N_Lbent ["_law_bag_here", "_law_one_here", "_law_other", "_law_some"] (defScope s_Lbent) := ⟨rfl, rfl, rfl, by decide +kernel, rfl, by decide +kernel, by decide +kernel⟩
set_option maxHeartbeats 4000000 in
theorem ok_Lbent {f : Addr} {fd : FuncData} (F : Fun K "_law_bent" "_law_bent" s_Lbent f fd) (T : Bi mg) (TK : CTake P w K mg base) (CO : COne P w K mg base) (CM : CMixed P w K mg base) (CD : COdd P w K mg base) (CA : CAllBehind P w K mg base) : FnOk P w K mg base CX0 4 f fd ["_law_bag_here", "_law_one_here", "_law_other", "_law_some"] (spBent K) := by
  refine F.ok sc_Lbent (fun vs H Q E h => ?_) (fun cdv A outer s H vs Q E hr h => ?_)
  · obtain ⟨b, a1, a2, a, G, x1, x2, xs, ins, r1, r2, ms, rfl, _⟩ := h
    rfl
  · obtain ⟨b, a1, a2, a, G, x1, x2, xs, ins, r1, r2, ms, rfl, B, R1, R2, oi, ha, hxs, inr0, ne, bnd, k⟩ := h
    have sl : 10000 ≤ sizeLine := by decide
    refine ⟨_, (pss_cons (ps_par (i := 4) (j := 5) (by rfl) sc_Lbent.nd rfl rfl (by decide) rfl rfl (pa_cons (pe_cal CM (hr.mono (by decide)) pass0 (pa_cons (pv 0) (pa_cons (pv 3) pa_nil))) (pa_cons (pe_cal TK (hr.mono (by decide)) pass0 (pa_cons (pv 0) (pa_cons pe_int pa_nil))) pa_nil)) (by rfl))
    (pss_cons (ps_set (i := 6) sc_Lbent.nd rfl (.inl rfl) (pe_tup (pa_cons (pe_cal TK (hr.mono (by decide)) pass0 (pa_cons (pv 0) (pa_cons (pe_callB call_len_seq (by rfl) T.b_len bt_len (pa_cons (pv 1) pa_nil)) pa_nil))) (pa_cons (pe_cal TK (hr.mono (by decide)) pass0 (pa_cons (pv 0) (pa_cons (pe_callB call_len_seq (by rfl) T.b_len bt_len (pa_cons (pv 2) pa_nil)) pa_nil))) pa_nil))))
    (pss_cons (ps_set (i := 7) sc_Lbent.nd rfl (.inl rfl) (pe_cal TK (hr.mono (by decide)) pass0 (pa_cons (pv 0) (pa_cons (pe_callB call_len_seq (by rfl) T.b_len bt_len (pa_cons (pv 4) pa_nil)) pa_nil))))
    (pss_cons (ps_if (pt_cmpR op_eq (pv 5) pe_int (nomark _))
      (pss_one (ps_ret (pe_op op_cat (pe_slice sl_list (pv 4) po_none (po_some (pv 7))) (pe_slice sl_list (pv 4) (po_some (pe_op op_add (pv 7) pe_int)) po_none))))
      pss_nil)
    (pss_cons (ps_if (pt_cmpR op_eq (pv 5) pe_int (nomark _))
      (pss_one (ps_ret (pe_op op_cat (pv 4) (pe_lst (pa_cons (pe_cal CO (hr.mono (by decide)) pass0 (pa_cons (pv 0) (pa_cons (pe_lst (pa_cons (pv 6) (pa_cons (pe_ix ix_list (pv 4) (pv 7) (fun _ _ => rfl)) (pa_cons (pe_tup (pa_cons (pe_callB call_len_seq (by rfl) T.b_len bt_len (pa_cons (pv 1) pa_nil)) (pa_cons pe_int pa_nil))) (pa_cons (pe_tup (pa_cons pe_int (pa_cons (pe_un un_neg pe_int) pa_nil))) (pa_cons (pe_callTy call_list_of (by rfl) T.b_list bt_list (pa_cons (pe_ix ix_list (pv 4) (pv 7) (fun _ _ => rfl)) pa_nil)) (pa_cons (pe_tup (pa_cons pe_int pa_nil)) pa_nil))))))) pa_nil))) pa_nil)))))
      pss_nil)
    (pss_cons (ps_if (pt_cmpR op_eq (pv 5) pe_int (nomark _))
      (pss_one (ps_ret (pe_cal CA (hr.mono (by decide)) pass0 (pa_cons (pv 1) (pa_cons (pv 2) (pa_cons (pe_op op_cat (pv 4) (pe_op op_rep (pe_lst (pa_cons (pv 6) pa_nil)) (pe_callTy call_int1 (by rfl) T.b_int bt_int (pa_cons (pe_cmpR (op_notInD (Room.u65 hr)) (pv 6) (pv 4) rfl) pa_nil)))) pa_nil))))))
      pss_nil)
    (pss_cons (ps_if (pt_cmpR op_eq (pv 5) pe_int (nomark _))
      (pss_one (ps_ret (pe_lc (own := [("_law_here", 9), ("_law_there", 10)]) (by rfl) sc_Lbent.nd (pi_list (pv 4)) (blkOk_by (N := N_Lbent) (sc := defScope s_Lbent) (by decide +kernel)) (fun _ _ _ _ _ => (pg_tupk (K := K) 2 rfl (pgs_cons (pg_name (i := 9) sc_Lbent.nd rfl (.inl rfl) (hf := .inr rfl)) (pgs_cons (pg_name (i := 10) sc_Lbent.nd rfl (.inl rfl) (hf := .inr rfl)) pgs_nil)))) (fun _ _ _ _ _ => pts_nil) (fun _ _ _ _ _ => (pe_tup (pa_cons (pe_ifExp (pt_cmpR op_lt (pv 9) pe_int (nomark _)) (pe_cmpR op_eq (pv 9) pe_int (nomark _)) (pv 9)) (pa_cons (pv 10) pa_nil)))))))
      pss_nil)
    (pss_cons (ps_if (pt_cmpR op_eq (pv 5) pe_int (nomark _))
      (pss_cons (ps_set (i := 8) sc_Lbent.nd rfl (.inl rfl) (pe_lst (pa_cons (pe_callTy call_tuple_of (by rfl) T.b_tuple bt_tuple (pa_cons (pv 4) pa_nil)) (pa_cons (pe_ix ix_list (pv 4) pe_int (fun _ _ => rfl)) (pa_cons pe_non (pa_cons (pd_lst (K := K) pd_nil (by decide)) (pa_cons (pd_lst (K := K) (pd_cons (pd_tup pd_nil (by decide)) pd_nil) (by decide)) (pa_cons (pd_lst (K := K) (pd_cons (pd_lit pe_non (fun _ => .non)) pd_nil) (by decide)) (pa_cons (pd_dic (K := K)) (pa_cons (pe_cal CD hr pass0 (pa_cons (pv 0) pa_nil)) pa_nil))))))))))
      (pss_one (ps_ret (pe_cal CO (hr.mono (by decide)) pass0 (pa_cons (pv 0) (pa_cons (pe_op op_cat (pv 8) (pe_lst (pa_cons (pe_lc (own := [("_law_part", 11)]) (by rfl) sc_Lbent.nd (pi_list (pv 4)) (blkOk_by (N := N_Lbent) (sc := defScope s_Lbent) (by decide +kernel)) (fun _ _ _ _ _ => (pg_name (i := 11) sc_Lbent.nd rfl (.inl rfl))) (fun _ _ _ _ _ => pts_nil) (fun _ _ _ _ _ => (pe_callTy (listOf_k (K := K)) (by rfl) T.b_list bt_list (pa_cons (pv 11) pa_nil)))) pa_nil))) pa_nil))))))
      pss_nil)
    (pss_one (ps_ret (pv 4))))))))))), ?_⟩
    have s0 := Dr.zero B
    have e0 := B.fz
    have hb := B.bag.some
    have xl := hxs.length
    rw [List.length_map] at xl
    have hn1 := R1.dd.length
    have hn2 := R2.dd.length
    rw [List.length_map] at hn1 hn2
    have p1 := List.length_pos_iff.mpr R1.ok.ne
    have p2 := List.length_pos_iff.mpr R2.ok.ne
    have f1 := R1.ok.few
    have f2 := R2.ok.few
    have mpos := List.length_pos_iff.mpr ne
    refine ⟨_, rfl, _, rfl, b, a, G, xs, rfl, B, ha, by omega, fun G1 H1 v g1 bag1 ⟨pf, ys, ev, py, npf, eG, hpf⟩ => ?_⟩
    subst ev
    subst eG
    obtain ⟨es, pe, hys⟩ := hxs.perm py
    obtain ⟨ns, rfl, pn⟩ := perm_pairs pe
    have s1 : Dr b G1 H (upd G1 pf (.lst ys)) H1 := (s0.callB g1 bag1).fix hb npf hpf
    have gpf : (upd G1 pf (.lst ys)) pf = some (.lst ys) := upd_same
    have up1 : Same G1 (upd G1 pf (.lst ys)) := same_new (none_of e0 npf)
    have hys1 := hys.up up1
    have R1' := R1.up up1
    have R2' := R2.up up1
    generalize upd G1 pf (.lst ys) = G2 at s1 gpf hys1 R1' R2'
    have nl := pn.length_eq
    have yl := hys.length
    rw [List.length_map] at yl
    have inr : ∀ p ∈ ns, inR r1.length r2.length p := fun p hp => inr0 p (pn.mem_iff.mp hp)
    refine ⟨_, rfl, b, 10, G2, rfl, s1.bs, by decide, by decide, fun way o w0 w1 B2 => ?_⟩
    have s2 := s1.draw B2
    generalize upd H1 b o = H2 at s2
    refine ⟨_, _, rfl, ?_⟩
    refine ⟨_, rfl, _, rfl, a1, x1, rfl, .inl (s2.bs.fz.seq R1'.at_), b, x1.length, G2, rfl, s2.bs, by omega, by omega, fun m1 o m10 m11 B3 => ?_⟩
    have s3 := s2.draw B3
    generalize upd H2 b o = H3 at s3
    refine ⟨_, rfl, _, rfl, a2, x2, rfl, .inl (s3.bs.fz.seq R2'.at_), b, x2.length, G2, rfl, s3.bs, by omega, by omega, fun m2 o m20 m21 B4 => ?_⟩
    have s4 := s3.draw B4
    generalize upd H3 b o = H4 at s4
    refine ⟨by show 2 ≤ sizeLine; decide, fun pm npm => ?_⟩
    have s5 := s4.new (o := .tup [.int m1, .int m2]) npm
    have up2 : Same G2 (upd G2 pm (.tup [.int m1, .int m2])) := same_new (none_of s4.bs.fz npm)
    have gpm : (upd G2 pm (.tup [.int m1, .int m2])) pm = some (.tup [.int m1, .int m2]) := upd_same
    have gpf := up2 _ _ gpf
    have hys2 := hys1.up up2
    have R1 := R1'.up up2
    have R2 := R2'.up up2
    generalize upd G2 pm (.tup [.int m1, .int m2]) = G3 at s5 gpm gpf hys2 R1 R2
    generalize upd H4 pm (.tup [.int m1, .int m2]) = H5 at s5
    have inm : inR r1.length r2.length (m1, m2) := ⟨⟨m10, by omega⟩, m20, by omega⟩
    refine ⟨_, rfl, _, rfl, pf, ys, rfl, .inl (SqL.of (s5.bs.fz _ _ gpf)), b, ys.length, G3, rfl, s5.bs, by omega, by omega, fun at_ o a0 a1' B6 => ?_⟩
    have s6 := s5.draw B6
    generalize upd H5 b o = H6 at s6
    have hpf := s6.bs.fz _ _ gpf
    clear s5 s4 s3 s2 s1 s0 B2 B3 B4 B6 hys1 R1' R2' bag1 g1 npm
    obtain ⟨n, rfl⟩ : ∃ n : Nat, at_ = n := ⟨at_.toNat, by omega⟩
    have nlt : n < ys.length := by omega
    have elp : ∀ d ∈ ns.map pairD, El d := fun d hd => by
      obtain ⟨p, hp, rfl⟩ := List.mem_map.mp hd
      exact el_pair (inr p hp) (by omega) (by omega)
    have fin : ∀ {H' : Hp} {G' : Hp} {q : Addr} {vs : List V} {ds : List PyData}, Dr b G1 H G' H' → H' q = none → DDs K G' vs ds → Odd (.list ds) → Q (.ref q) (upd H' q (.lst vs)) := fun s nq dd od =>
      k _ _ _ (s.new nq).g (s.new nq).bs.bag ⟨_, .lst (SqL.of upd_same) (dd.up (same_new (none_of s.bs.fz nq))), od⟩
    obtain ⟨q, hq⟩ : ∃ q, ns[n]? = some q := ⟨_, List.getElem?_eq_getElem (by omega)⟩
    have inq := inr q (List.mem_of_getElem? hq)
    obtain ⟨v, hv, hv2⟩ := hys2.getD (i := n) (show (ns.map pairD)[n]? = some (pairD q) by rw [List.getElem?_map, hq]; rfl)
    obtain ⟨tq, rfl, htq⟩ := pair_inv hv2
    have nl' := hys2.length
    rw [List.length_map] at nl'
    refine ⟨_, rfl, rfl, _, rfl, ite2 (fun c => ?_) fun _ => ?_⟩
    · clear c
      refine ⟨_, rfl, _, rfl, n, rfl, pf, ys, rfl, SqL.of hpf, fun p np => ?_⟩
      have s7 := s6.junk (o := .lst (cutV ys none (some (n : Int)))) np
      have h1 : upd H6 p (.lst (cutV ys none (some (n : Int)))) p = some (.lst (cutV ys none (some (n : Int)))) := upd_same
      generalize upd H6 p (.lst (cutV ys none (some (n : Int)))) = H7 at s7 h1
      refine ⟨_, rfl, _, rfl, _, _, rfl, rfl, _, rfl, pf, ys, rfl, SqL.of (s7.bs.fz _ _ gpf), fun p2 np2 => ?_⟩
      have s8 := s7.junk (o := .lst (cutV ys (some ((n : Int) + 1)) none)) np2
      have e1 : (n : Int) + 1 = ((n + 1 : Nat) : Int) := by omega
      refine ⟨p, p2, _, _, rfl, rfl, by rw [upd_ne (ne_of_none h1 np2)]; exact h1, upd_same, ?_, fun q1 nq1 => ?_⟩
      · have z1 := cutV_length ys none (some (n : Int))
        have z2 := cutV_length ys (some ((n : Int) + 1)) none
        omega
      · refine fin s8 nq1 (ds := (ns.map pairD).take n ++ (ns.map pairD).drop (n + 1)) ?_ (odd_list (fun d hd => elp d ?_) ?_)
        · rw [cut_to (Nat.le_of_lt nlt), e1, cut_from nlt]
          exact (hys2.take n).append (hys2.drop (n + 1))
        · rcases List.mem_append.mp hd with h | h
          · exact List.mem_of_mem_take h
          · exact List.mem_of_mem_drop h
        · rw [List.length_append, List.length_take, List.length_drop, List.length_map]
          omega
    refine ⟨_, rfl, rfl, _, rfl, ite2 (fun c => ?_) fun _ => ?_⟩
    · clear c
      refine ⟨_, rfl, _, rfl, _, rfl, _, rfl, _, rfl, pf, ys, _, .ref tq, rfl, rfl, SqL.of hpf, at_of rfl hv, ?_⟩
      refine ⟨_, rfl, a1, x1, rfl, .inl (s6.bs.fz.seq R1.at_), by show 2 ≤ sizeLine; decide, fun t1 nt1 => ?_⟩
      have s7 := s6.new (o := .tup [.int x1.length, .int 0]) nt1
      have u7 := same_new (o := .tup [.int x1.length, .int 0]) (none_of s6.bs.fz nt1)
      have g7 : upd G3 t1 (.tup [.int x1.length, .int 0]) t1 = some (.tup [.int x1.length, .int 0]) := upd_same
      generalize upd G3 t1 (.tup [.int x1.length, .int 0]) = G7 at s7 u7 g7
      generalize upd H6 t1 (.tup [.int x1.length, .int 0]) = H7 at s7
      refine ⟨_, rfl, by show 2 ≤ sizeLine; decide, fun t2 nt2 => ?_⟩
      have s8 := s7.new (o := .tup [.int 0, .int (-1)]) nt2
      have u8 := same_new (o := .tup [.int 0, .int (-1)]) (none_of s7.bs.fz nt2)
      have g8 : upd G7 t2 (.tup [.int 0, .int (-1)]) t2 = some (.tup [.int 0, .int (-1)]) := upd_same
      generalize upd G7 t2 (.tup [.int 0, .int (-1)]) = G8 at s8 u8 g8
      generalize e8 : upd H7 t2 (.tup [.int 0, .int (-1)]) = H8 at s8
      have u68 := u7.trans u8
      refine ⟨_, rfl, _, rfl, pf, ys, _, .ref tq, rfl, rfl, SqL.of (s8.bs.fz _ _ (u68 _ _ gpf)), at_of rfl hv, tq, _, rfl, .inr (sqT_up (u68.trans s8.bs.fz) htq), fun l nl8 => ?_⟩
      have s9 := s8.new (o := .lst [.int q.1, .int q.2]) nl8
      have u9 := same_new (o := .lst [.int q.1, .int q.2]) (none_of s8.bs.fz nl8)
      have g9 : upd G8 l (.lst [.int q.1, .int q.2]) l = some (.lst [.int q.1, .int q.2]) := upd_same
      generalize upd G8 l (.lst [.int q.1, .int q.2]) = G9 at s9 u9 g9
      generalize upd H8 l (.lst [.int q.1, .int q.2]) = H9 at s9
      refine ⟨by show 1 ≤ sizeLine; decide, fun t3 nt3 => ?_⟩
      have s10 := s9.new (o := .tup [.int 0]) nt3
      have u10 := same_new (o := .tup [.int 0]) (none_of s9.bs.fz nt3)
      have g10 : upd G9 t3 (.tup [.int 0]) t3 = some (.tup [.int 0]) := upd_same
      generalize upd G9 t3 (.tup [.int 0]) = G10 at s10 u10 g10
      generalize upd H9 t3 (.tup [.int 0]) = H10 at s10
      have dd6 : DDs K G10 [.ref pm, .ref tq, .ref t1, .ref t2, .ref l, .ref t3] [pairD (m1, m2), pairD q, .tuple [.int x1.length, .int 0], .tuple [.int 0, .int (-1)], .list [.int q.1, .int q.2], .tuple [.int 0]] :=
        .cons (DD.pair (p := (m1, m2)) (SqT.of (u10 _ _ (u9 _ _ (u68 _ _ gpm))))) (.cons (hv2.up ((u68.trans u9).trans u10)) (.cons (.tup (SqT.of (u10 _ _ (u9 _ _ (u8 _ _ g7)))) (.cons (.int _) (.cons (.int _) .nil))) (.cons (.tup (SqT.of (u10 _ _ (u9 _ _ g8))) (.cons (.int _) (.cons (.int _) .nil)))
          (.cons (.lst (SqL.of (u10 _ _ g9)) (.cons (.int _) (.cons (.int _) .nil))) (.cons (.tup (SqT.of g10) (.cons (.int _) .nil)) .nil)))))
      have el6 : ∀ d ∈ [pairD (m1, m2), pairD q, PyData.tuple [.int x1.length, .int 0], .tuple [.int 0, .int (-1)], .list [.int q.1, .int q.2], .tuple [.int 0]], El d := by
        have z0 : Sm 2 20 (.int 0) := (sm_int (by decide) (by decide)).mono (by decide) (by decide)
        have z1 : Sm 2 20 (.int (-1)) := sm_neg1.mono (by decide) (by decide)
        have zi : ∀ {i : Int}, 0 ≤ i → i < 200 → Sm 2 20 (.int i) := fun a b => (sm_int a b).mono (by decide) (by decide)
        have i1 := inq.1
        have i2 := inq.2
        intro d hd
        simp only [List.mem_cons, List.not_mem_nil, or_false] at hd
        rcases hd with rfl | rfl | rfl | rfl | rfl | rfl
        · exact el_pair inm (by omega) (by omega)
        · exact el_pair inq (by omega) (by omega)
        · refine el_tup (fun e he => ?_) (by show 2 ≤ 4; decide)
          simp only [List.mem_cons, List.not_mem_nil, or_false] at he
          rcases he with rfl | rfl
          · exact zi (by omega) (by omega)
          · exact z0
        · refine el_tup (fun e he => ?_) (by show 2 ≤ 4; decide)
          simp only [List.mem_cons, List.not_mem_nil, or_false] at he
          rcases he with rfl | rfl
          · exact z0
          · exact z1
        · refine el_list (fun e he => ?_) (by show 2 ≤ 4; decide)
          simp only [List.mem_cons, List.not_mem_nil, or_false] at he
          rcases he with rfl | rfl
          · exact zi (by omega) (by omega)
          · exact zi (by omega) (by omega)
        · refine el_tup (fun e he => ?_) (by show 1 ≤ 4; decide)
          simp only [List.mem_cons, List.not_mem_nil, or_false] at he
          rcases he with rfl
          exact z0
      refine ⟨by show 6 ≤ sizeLine; decide, fun pl npl => ?_⟩
      have s11 := s10.junk (o := .lst [.ref pm, .ref tq, .ref t1, .ref t2, .ref l, .ref t3]) npl
      refine ⟨b, pl, G10, _, rfl, s11.bs, SqL.of upd_same, s10.ne npl, by show 0 < 6; decide, by show 6 < 1000000; decide, fun i w o hw B9 => ?_⟩
      have s12 := s11.draw B9
      generalize upd (upd H10 pl (.lst [.ref pm, .ref tq, .ref t1, .ref t2, .ref l, .ref t3])) b o = H12 at s12
      obtain ⟨d, hd, dw⟩ := dd6.get hw
      have u3 := (u68.trans u9).trans u10
      refine ⟨by show 1 ≤ sizeLine; decide, fun p1 np1 => ?_⟩
      have s13 := s12.junk (o := .lst [w]) np1
      have k13 : upd H12 p1 (.lst [w]) p1 = some (.lst [w]) := upd_same
      generalize upd H12 p1 (.lst [w]) = H13 at s13 k13
      refine ⟨pf, p1, _, _, rfl, rfl, s13.bs.fz _ _ (u3 _ _ gpf), k13, (by show ys.length + 1 ≤ sizeLine; omega), fun q1 nq1 => ?_⟩
      refine fin s13 nq1 ((hys2.up u3).append (.one dw)) (odd_list (fun e he => ?_) (by rw [List.length_append, List.length_map]; show ns.length + 1 < 64; omega))
      rcases List.mem_append.mp he with h | h
      · exact elp e h
      · rw [List.mem_singleton.mp h]
        exact el6 d (List.mem_of_getElem? hd)
    refine ⟨_, rfl, rfl, _, rfl, ite2 (fun c => ?_) fun _ => ?_⟩
    · clear c
      refine ⟨_, rfl, _, rfl, _, rfl, _, rfl, by show 1 ≤ sizeLine; decide, fun p1 np1 => ?_⟩
      have s7 := s6.junk (o := .lst [.ref pm]) np1
      have k7 : upd H6 p1 (.lst [.ref pm]) p1 = some (.lst [.ref pm]) := upd_same
      generalize upd H6 p1 (.lst [.ref pm]) = H7 at s7 k7
      have dm : DD K H7 (.ref pm) (pairD (m1, m2)) := DD.pair (p := (m1, m2)) (SqT.of (s7.bs.fz _ _ gpm))
      refine ⟨_, rfl, _, rfl, pairD (m1, m2), ns.map pairD, dm.dp rfl, .lst (SqL.of (s7.bs.fz _ _ gpf)) ((hys2.up s7.bs.fz).dp (plain_pairs _)), shaped_pair _, shaped_pairs _, ?_⟩
      rw [any_pair]
      refine .inr ⟨_, rfl, p1, _, _, rfl, rfl, k7, ?_⟩
      have key : ∃ (zs : List V) (ks : List Pr), (List.replicate (if (!decide ((m1, m2) ∈ ns)) = true then (1 : Int) else 0).toNat [V.ref pm]).flatten = zs ∧ DDs K G3 zs (ks.map pairD) ∧ ks.length ≤ 1 ∧ ∀ p ∈ ks, inR r1.length r2.length p := by
        by_cases z : (!decide ((m1, m2) ∈ ns)) = true
        · rw [if_pos z]
          exact ⟨_, [(m1, m2)], rfl, .one (DD.pair (p := (m1, m2)) (SqT.of gpm)), Nat.le_refl _, fun p hp => by rw [List.mem_singleton.mp hp]; exact inm⟩
        · rw [if_neg z]
          exact ⟨_, [], rfl, .nil, Nat.zero_le _, fun p hp => by cases hp⟩
      have kb : -(2 ^ 63) ≤ (if (!decide ((m1, m2) ∈ ns)) = true then (1 : Int) else 0) ∧ (if (!decide ((m1, m2) ∈ ns)) = true then (1 : Int) else 0) < 2 ^ 63 ∧ (if (!decide ((m1, m2) ∈ ns)) = true then (1 : Int) else 0).toNat ≤ 1 := by
        split <;> decide
      refine ⟨kb.1, kb.2.1, (by show 1 * _ ≤ sizeLine; have := kb.2.2; omega), fun p2 np2 => ?_⟩
      obtain ⟨zs, ks, ez, dz, kl, kr⟩ := key
      rw [ez]
      have zl := dz.length
      rw [List.length_map] at zl
      have s8 := s7.junk (o := .lst zs) np2
      have k8 : upd H7 p2 (.lst zs) p2 = some (.lst zs) := upd_same
      generalize upd H7 p2 (.lst zs) = H8 at s8 k8
      refine ⟨pf, p2, _, _, rfl, rfl, s8.bs.fz _ _ gpf, k8, by omega, fun q1 nq1 => ?_⟩
      have s9 := s8.new (o := .lst (ys ++ zs)) nq1
      have u9 := same_new (o := .lst (ys ++ zs)) (none_of s8.bs.fz nq1)
      have g9 : upd G3 q1 (.lst (ys ++ zs)) q1 = some (.lst (ys ++ zs)) := upd_same
      generalize upd G3 q1 (.lst (ys ++ zs)) = G9 at s9 u9 g9
      generalize upd H8 q1 (.lst (ys ++ zs)) = H9 at s9
      refine ⟨a1, a2, q1, G9, x1, x2, ys ++ zs, ins, r1, r2, ns ++ ks, rfl, s9.bs.fz, R1.up u9, R2.up u9, oi, SqL.of g9, ?_, ?_, by rw [List.length_append]; omega, fun G' H' v g ⟨ms', dv, ml, mr⟩ => ?_⟩
      · rw [List.map_append]
        exact (hys2.up u9).append (dz.up u9)
      · intro p hp
        rcases List.mem_append.mp hp with h | h
        · exact inr p h
        · exact kr p h
      · have s10 := s9.call0 g
        exact k _ _ _ s10.g s10.bs.bag ⟨_, dv, odd_list (fun d hd => by obtain ⟨p, hp, rfl⟩ := List.mem_map.mp hd; exact el_pair (mr p hp) (by omega) (by omega)) (by rw [List.length_map]; exact ml)⟩
    refine ⟨_, rfl, rfl, _, rfl, ite2 (fun c => ?_) fun _ => ?_⟩
    · clear c
      refine ⟨_, rfl, pf, rfl, ⟨_, SqL.of hpf⟩, fun D nD => ?_⟩
      have s7 := s6.junk (o := .lst []) nD
      have D0 := s6.old nD
      have Db := s6.ne nD
      refine lc_list (xs := ys) (fun i H' => ∃ (G' : Hp) (acc : List V) (ds : List PyData), Dr b G1 H G' H' ∧ Same G3 G' ∧ G' D = none ∧ H' D = some (.lst acc) ∧ DDs K G' acc ds ∧ ds.length = i ∧ ∀ d ∈ ds, El d)
        ⟨G3, [], [], s7, Same.refl _, none_of s6.bs.fz nD, upd_same, .nil, rfl, fun d hd => by cases hd⟩ (fun i H' _ h => by obtain ⟨G', _, _, s8, u, _⟩ := h; exact SqL.of (s8.bs.fz _ _ (u _ _ gpf))) ?_ ?_
      · rintro i x H' hx ⟨G', acc, ds, s8, u8, gD, hD, da, dl, el⟩
        have il := (List.getElem?_eq_some_iff.mp hx).1
        obtain ⟨dz, hdz, dx⟩ := hys2.get hx
        rw [List.getElem?_map] at hdz
        obtain ⟨pz, hz, rfl⟩ : ∃ pz, ns[i]? = some pz ∧ dz = pairD pz := by
          cases z : ns[i]? with
          | none => rw [z] at hdz; cases hdz
          | some r => rw [z] at hdz; exact ⟨r, rfl, (Option.some.inj hdz).symm⟩
        obtain ⟨tz, rfl, htz⟩ := pair_inv dx
        have inz := inr pz (List.mem_of_getElem? hz)
        refine ⟨tz, _, rfl, sqT_up (u8.trans s8.bs.fz) htz, rfl, _, _, rfl, _, _, rfl, rfl, ?_⟩
        have al := da.length
        have tail : ∀ (v0 : V) (d0 : PyData), DD K G' v0 d0 → Sm 2 20 d0 → ∀ t, H' t = none →
            ∃ acc2, upd H' t (.tup [v0, .int pz.2]) D = some (.lst acc2) ∧ acc2.length < sizeLine ∧ ∃ (G' : Hp) (acc : List V) (ds : List PyData), Dr b G1 H G' (upd (upd H' t (.tup [v0, .int pz.2])) D (.lst (acc2 ++ [.ref t]))) ∧ Same G3 G' ∧ G' D = none ∧ (upd (upd H' t (.tup [v0, .int pz.2])) D (.lst (acc2 ++ [.ref t]))) D = some (.lst acc) ∧ DDs K G' acc ds ∧ ds.length = i + 1 ∧ ∀ d ∈ ds, El d := fun v0 d0 dv0 sm0 t nt => by
          have tD : D ≠ t := ne_of_none hD nt
          have s9 := s8.new (o := .tup [v0, .int pz.2]) nt
          have u9 := same_new (o := .tup [v0, .int pz.2]) (none_of s8.bs.fz nt)
          refine ⟨acc, by rw [upd_ne tD]; exact hD, by omega, _, acc ++ [.ref t], ds ++ [.tuple [d0, .int pz.2]], s9.chg (by rw [upd_ne tD]; exact gD) D0 Db, u8.trans u9, by rw [upd_ne tD]; exact gD, upd_same, (da.up u9).append (.one (.tup (SqT.of upd_same) (.cons (dv0.up u9) (.cons (.int _) .nil)))), by simp [dl], fun d hd => ?_⟩
          rcases List.mem_append.mp hd with h | h
          · exact el d h
          · rw [List.mem_singleton.mp h]
            refine el_tup (fun e he => ?_) (by show 2 ≤ 4; decide)
            simp only [List.mem_cons, List.not_mem_nil, or_false] at he
            have i2 := inz.2
            rcases he with rfl | rfl
            · exact sm0
            · exact (sm_int i2.1 (by omega)).mono (by decide) (by decide)
        refine ⟨rfl, _, rfl, _, _, rfl, rfl, _, rfl, ite2 (fun c => ?_) fun c => ?_⟩
        · refine ⟨_, rfl, rfl, _, rfl, by show 2 ≤ sizeLine; decide, fun t nt => tail _ _ (.bl _) ((sm_bool _).mono (by decide) (by decide)) t nt⟩
        · have i1 := inz.1
          refine ⟨_, rfl, _, rfl, by show 2 ≤ sizeLine; decide, fun t nt => tail _ _ (.int _) ((sm_int i1.1 (by omega)).mono (by decide) (by decide)) t nt⟩
      · rintro H' ⟨G', acc, ds, s8, u8, gD, hD, da, dl, el⟩
        have s9 := s8.fix hb D0 hD
        exact k _ _ _ s9.g s9.bs.bag ⟨_, .lst (SqL.of upd_same) (da.up (same_new gD)), odd_list el (by omega)⟩
    refine ⟨_, rfl, rfl, _, rfl, ite2 (fun c => ?_) fun _ => ?_⟩
    · clear c
      refine ⟨_, rfl, pf, _, rfl, .inl ⟨SqL.of hpf, fun t1 nt1 => ?_⟩⟩
      have s7 := s6.new (o := .tup ys) nt1
      have u7 := same_new (o := .tup ys) (none_of s6.bs.fz nt1)
      have g7 : upd G3 t1 (.tup ys) t1 = some (.tup ys) := upd_same
      generalize upd G3 t1 (.tup ys) = G7 at s7 u7 g7
      generalize upd H6 t1 (.tup ys) = H7 at s7
      obtain ⟨q0, hq0⟩ : ∃ q, ns[0]? = some q := ⟨_, List.getElem?_eq_getElem (by omega)⟩
      have in0 := inr q0 (List.mem_of_getElem? hq0)
      obtain ⟨v0, hv0, dv0⟩ := hys2.getD (i := 0) (show (ns.map pairD)[0]? = some (pairD q0) by rw [List.getElem?_map, hq0]; rfl)
      refine ⟨_, rfl, pf, ys, _, v0, rfl, rfl, SqL.of (s7.bs.fz _ _ (u7 _ _ gpf)), at_of (j := 0) rfl hv0, fun v1 N1 H8 a8 d1 v2 N2 H9 a9 d2 v3 N3 H10 a10 d3 v4 N4 H11 a11 d4 => ?_⟩
      have s11 := (((s7.mix a8).mix a9).mix a10).mix a11
      have u11 := (((mix_l (G := G7) (N := N1)).trans (mix_l (N := N2))).trans (mix_l (N := N3))).trans (mix_l (N := N4))
      have d1' := ((d1.up (s7.mixr a8)).up (mix_l (N := N2))).up ((mix_l (N := N3)).trans (mix_l (N := N4)))
      have d2' := (d2.up ((s7.mix a8).mixr a9)).up ((mix_l (N := N3)).trans (mix_l (N := N4)))
      have d3' := (d3.up (((s7.mix a8).mix a9).mixr a10)).up (mix_l (N := N4))
      have d4' := d4.up ((((s7.mix a8).mix a9).mix a10).mixr a11)
      generalize mixH (mixH (mixH (mixH G7 N1) N2) N3) N4 = G11 at s11 u11 d1' d2' d3' d4'
      refine ⟨_, rfl, b, G11, rfl, s11.bs, fun G12 H12 vo g12 b12 ⟨dO, ddO, odO⟩ => ?_⟩
      have s12 := s11.callB g12 b12
      have u12 := g12.sub
      have u3 := (u7.trans u11).trans u12
      have dd8 : DDs K G12 [.ref t1, v0, .non, v1, v2, v3, v4, vo] [.tuple (ns.map pairD), pairD q0, .none, .list [], .list [.tuple []], .list [.none], .dict [], dO] :=
        .cons (.tup (SqT.of (u12 _ _ (u11 _ _ g7))) (hys2.up u3)) (.cons (dv0.up u3) (.cons .non (.cons (d1'.up u12) (.cons (d2'.up u12) (.cons (d3'.up u12) (.cons (d4'.up u12) (.cons ddO .nil)))))))
      have od8 : ∀ d ∈ [PyData.tuple (ns.map pairD), pairD q0, .none, .list [], .list [.tuple []], .list [.none], .dict [], dO], Odd d := by
        intro d hd
        simp only [List.mem_cons, List.not_mem_nil, or_false] at hd
        rcases hd with rfl | rfl | rfl | rfl | rfl | rfl | rfl | rfl
        · refine ⟨(Sm.tup (fun d hd => (elp d hd).sm) (show (ns.map pairD).length ≤ 64 by rw [List.length_map]; omega)).mono (by decide) (by decide), fine_not rfl⟩
        · exact odd_el (el_pair in0 (by omega) (by omega)) rfl
        · exact ⟨sm_none.mono (by decide) (by decide), fine_not rfl⟩
        · exact ⟨(smB_iff.mp (by decide +kernel : smB 10 10 (.list []) = true)).mono (by decide) (by decide), fine_short (by decide +kernel)⟩
        · exact ⟨(smB_iff.mp (by decide +kernel : smB 10 10 (.list [.tuple []]) = true)).mono (by decide) (by decide), fine_short (by decide +kernel)⟩
        · exact ⟨(smB_iff.mp (by decide +kernel : smB 10 10 (.list [.none]) = true)).mono (by decide) (by decide), fine_short (by decide +kernel)⟩
        · exact ⟨(smB_iff.mp (by decide +kernel : smB 10 10 (.dict []) = true)).mono (by decide) (by decide), fine_not rfl⟩
        · exact odO
      clear s11 g12 b12 s7 a8 a9 a10 a11 d1 d2 d3 d4 d1' d2' d3' d4'
      refine ⟨by show 8 ≤ sizeLine; decide, fun pl npl => ?_⟩
      have s13 := s12.junk (o := .lst [.ref t1, v0, .non, v1, v2, v3, v4, vo]) npl
      have k13 : upd H12 pl (.lst [.ref t1, v0, .non, v1, v2, v3, v4, vo]) pl = some (.lst [.ref t1, v0, .non, v1, v2, v3, v4, vo]) := upd_same
      generalize upd H12 pl (.lst [.ref t1, v0, .non, v1, v2, v3, v4, vo]) = H13 at s13 k13
      have w8 := dd8.length
      have w8 : [V.ref t1, v0, .non, v1, v2, v3, v4, vo].length = 8 := rfl
      generalize [V.ref t1, v0, .non, v1, v2, v3, v4, vo] = L8 at dd8 k13 w8
      generalize [PyData.tuple (ns.map pairD), pairD q0, .none, .list [], .list [.tuple []], .list [.none], .dict [], dO] = D8 at dd8 od8
      refine ⟨_, rfl, _, rfl, _, rfl, pf, rfl, ⟨_, SqL.of (s13.bs.fz _ _ (u3 _ _ gpf))⟩, fun D nD => ?_⟩
      have s14 := s13.junk (o := .lst []) nD
      have D0 := s13.old nD
      have Db := s13.ne nD
      have lD : pl ≠ D := ne_of_none k13 nD
      refine lc_list (xs := ys) (fun i H' => ∃ (G' : Hp) (acc : List V) (ds : List PyData), Dr b G1 H G' H' ∧ Same G12 G' ∧ G' D = none ∧ H' D = some (.lst acc) ∧ DDs K G' acc ds ∧ ds.length = i ∧ (∀ d ∈ ds, El d) ∧ H' pl = some (.lst L8))
        ⟨G12, [], [], s14, Same.refl _, none_of s13.bs.fz nD, upd_same, .nil, rfl, fun d hd => (by cases hd), by rw [upd_ne lD]; exact k13⟩ (fun i H' _ h => by obtain ⟨G', _, _, s8, u, _⟩ := h; exact SqL.of (s8.bs.fz _ _ (u _ _ (u3 _ _ gpf)))) ?_ ?_
      · rintro i x H' hx ⟨G', acc, ds, s8, u8, gD, hD, da, dl, el, hpl⟩
        have il := (List.getElem?_eq_some_iff.mp hx).1
        obtain ⟨dz, hdz, dx⟩ := hys2.get hx
        rw [List.getElem?_map] at hdz
        obtain ⟨pz, hz, rfl⟩ : ∃ pz, ns[i]? = some pz ∧ dz = pairD pz := by
          cases z : ns[i]? with
          | none => rw [z] at hdz; cases hdz
          | some r => rw [z] at hdz; exact ⟨r, rfl, (Option.some.inj hdz).symm⟩
        obtain ⟨tz, rfl, htz⟩ := pair_inv dx
        have inz := inr pz (List.mem_of_getElem? hz)
        have al := da.length
        refine ⟨rfl, _, rfl, tz, _, rfl, .inr (sqT_up ((u3.trans u8).trans s8.bs.fz) htz), fun t nt => ?_⟩
        have tD : D ≠ t := ne_of_none hD nt
        have s9 := s8.new (o := .lst [.int pz.1, .int pz.2]) nt
        have u9 := same_new (o := .lst [.int pz.1, .int pz.2]) (none_of s8.bs.fz nt)
        refine ⟨acc, by rw [upd_ne tD]; exact hD, by omega, _, acc ++ [.ref t], ds ++ [.list [.int pz.1, .int pz.2]], s9.chg (by rw [upd_ne tD]; exact gD) D0 Db, u8.trans u9, by rw [upd_ne tD]; exact gD, upd_same, (da.up u9).append (.one (.lst (SqL.of upd_same) (.cons (.int _) (.cons (.int _) .nil)))), by simp [dl], fun d hd => ?_, by rw [upd_ne lD, upd_ne (ne_of_none hpl nt)]; exact hpl⟩
        rcases List.mem_append.mp hd with h | h
        · exact el d h
        · rw [List.mem_singleton.mp h]
          refine el_list (fun e he => ?_) (by show 2 ≤ 4; decide)
          simp only [List.mem_cons, List.not_mem_nil, or_false] at he
          have i1 := inz.1
          have i2 := inz.2
          rcases he with rfl | rfl
          · exact (sm_int i1.1 (by omega)).mono (by decide) (by decide)
          · exact (sm_int i2.1 (by omega)).mono (by decide) (by decide)
      · rintro H' ⟨G', acc, ds, s8, u8, gD, hD, da, dl, el, hpl⟩
        have s9 := s8.fix hb D0 hD
        have u9 := same_new (o := .lst acc) gD
        have g9 : upd G' D (.lst acc) D = some (.lst acc) := upd_same
        generalize upd G' D (.lst acc) = G9 at s9 u9 g9
        refine ⟨by show 1 ≤ sizeLine; decide, fun p2 np2 => ?_⟩
        have s10 := s9.junk (o := .lst [.ref D]) np2
        have k10 : upd H' p2 (.lst [.ref D]) p2 = some (.lst [.ref D]) := upd_same
        have k11 : upd H' p2 (.lst [.ref D]) pl = some (.lst L8) := by rw [upd_ne (ne_of_none hpl np2)]; exact hpl
        generalize upd H' p2 (.lst [.ref D]) = H10 at s10 k10 k11
        refine ⟨pl, p2, _, _, rfl, rfl, k11, k10, (by show L8.length + 1 ≤ sizeLine; omega), fun q1 nq1 => ?_⟩
        have s11 := s10.junk (o := .lst (L8 ++ [.ref D])) nq1
        have dd9 : DDs K G9 (L8 ++ [.ref D]) (D8 ++ [.list ds]) := (dd8.up (u8.trans u9)).append (.one (.lst (SqL.of g9) (da.up u9)))
        have wl : (L8 ++ [V.ref D]).length = 9 := by rw [List.length_append, w8]; rfl
        refine ⟨b, q1, G9, _, rfl, s11.bs, SqL.of upd_same, s10.ne nq1, by omega, by omega, fun i w o hw B9 => ?_⟩
        obtain ⟨d, hd, dw⟩ := dd9.get hw
        have s12 := s11.draw B9
        refine k _ _ _ s12.g s12.bs.bag ⟨d, dw, ?_⟩
        rcases List.mem_append.mp (List.mem_of_getElem? hd) with h | h
        · exact od8 d h
        · rw [List.mem_singleton.mp h]
          exact odd_list el (by omega)
    exact ⟨_, rfl, k _ _ _ s6.g s6.bs.bag ⟨_, .lst (SqL.of gpf) hys2, odd_list elp (by rw [List.length_map]; omega)⟩⟩
end
end Kp

set_option Elab.async false
set_option linter.all false
set_option maxRecDepth 100000
set_option maxHeartbeats 2000000
namespace Kp
open PySem PySem.Spec PyProof.Rows L2 SlX
/-! ### lambdas as values, that may be kept, handed on and called from anywhere -/
structure Lm where
  params : Arguments
  body : Expr
  scope : Scope
/-- the object of a lambda at f: q its name, cells those of its maker -/
def LmO (q : Str) (cells : List (Str × Addr)) (d : Lm) (f c' : Addr) (pm ctv : Value) : HO := .ext fun h => h.get? f = some (PySem.W.kla_obj "<lambda>" q d.params d.body d.scope (cloFrom cells d.scope.names []) pm c' ctv)
/-- v is that lambda -/
def LmV (q : Str) (cells : List (Str × Addr)) (d : Lm) (H : Hp) (v : V) : Prop := ∃ f c' pm ctv, v = .ref f ∧ H f = some (LmO q cells d f c' pm ctv) ∧ H c' = some (LamX.CodeO c' q)
theorem LmV.up {q : Str} {cells : List (Str × Addr)} {d : Lm} {H H' : Hp} {v : V} (h : LmV q cells d H v) (e : Same H H') : LmV q cells d H' v := by
  obtain ⟨f, c', pm, ctv, h1, h2, h3⟩ := h
  exact ⟨f, c', pm, ctv, h1, e _ _ h2, e _ _ h3⟩
/-- all but P stays -/
def But (P : Addr) (H H' : Hp) : Prop := ∀ b o, b ≠ P → H b = some o → H' b = some o
theorem tabS_up {H H' : Hp} {P : Addr} {q : Str} (t : LamX.TabS H P q) (e : Same H H') : LamX.TabS H' P q := t.ext e
/-- lambda: e, as a value -/
def tLm (P : Addr) (q : Str) (cells : List (Str × Addr)) (d : Lm) : TE := fun _ H Q => LamX.TabS H P q ∧ ∀ v H', But P H H' → LamX.TabS H' P q → LmV q cells d H' v → Q v H'
theorem pe_lm {X : Cx} {params : Arguments} {body : Expr} {scope : Scope} {pos : Pos} {c P : Addr} {q : Str} (hq : X.env.qual ++ "<lambda>" = q) (TB : LamX.TabB X.base X.mg c P) (hcode : X.env.code = .ref c) (hdef : defaultsOf params X.env = ([], [])) (L : LamX.LamS X.env.scope scope) :
    PE X (.Lambda params body scope pos) (tLm P q X.env.cells ⟨params, body, scope⟩) := by
  refine ⟨fun pins s σ H Q I ⟨t, h⟩ => ?_⟩
  subst hq
  obtain ⟨ps, hP, ht, ha⟩ := t
  have bP : s.heap.BuiltinsAt X.mg P := TB.bm.keeps I.bk
  have oP : s.heap.get? P = some { cls := .none, data := .fields ps } := I.hok P _ hP
  have cl := closure_ok (L.has I.ok)
  refine PySem.W.kla_eval hdef ?_
  cases hc : codeAmong pos ps.toList with
  | some cv =>
    obtain ⟨c', e, hco⟩ := ha pos cv hc
    subst e
    refine PySem.W.kla_makeFunctionHit (mg := X.mg) (c := c) (P := P) (ps := ps) cl I.ok.glob (I.mod.glob.keeps I.bk) hcode (TB.code.keeps I.bk) oP ht hc bP fun ctv h' tk hx hsz => ?_
    have I1 : Inv X pins σ H { s with heap := h', toks := tk } := I.kept hx
    have I2 := I1.laid (a := h'.objs.size) (o := LmO (X.env.qual ++ "<lambda>") X.env.cells ⟨params, body, scope⟩ h'.objs.size c' ((X.mg "__name__").getD .none) ctv) (t' := tk) (fun b u e => Heap.get?_push_of_some _ e) (Nat.le_refl _)
      ⟨Heap.get?_push_size _ rfl, ⟨_, Heap.get?_push_size _ rfl⟩, fun h1 h2 a st => st _ a⟩
    have nf : H h'.objs.size = none := I1.hok.fresh (Nat.le_refl _)
    have sm := same_new (o := LmO (X.env.qual ++ "<lambda>") X.env.cells ⟨params, body, scope⟩ h'.objs.size c' ((X.mg "__name__").getD .none) ctv) nf
    refine ⟨.ref h'.objs.size, _, I2, rfl, h _ _ (fun b o _ e => sm b o e) (LamX.TabS.ext ⟨ps, hP, ht, ha⟩ sm) ⟨_, c', _, ctv, rfl, upd_same, sm _ _ hco⟩⟩
  | none =>
    refine PySem.W.kla_makeFunction (mg := X.mg) (c := c) (P := P) (ps := ps) cl I.ok.glob (I.mod.glob.keeps I.bk) hcode (TB.code.keeps I.bk) oP ht hc TB.gP bP fun c' ctv h' tk hx hge hlt hrec htb => ?_
    obtain ⟨c2, oc, vs, t, e2, hoc, hd, hv⟩ := hrec
    cases e2
    have nc : H c' = none := I.hok.fresh hge
    have I1 := LamX.inv_table (t' := tk) (q := X.env.qual ++ "<lambda>") (more := #[rawInt pos.line, rawInt pos.col, .ref c']) (h' := h') I hP (fun b o hb e => hx b o hb e) htb hge ⟨oc, vs, t, hoc, hd, hv⟩
    have nP : P ≠ c' := ne_of_none hP nc
    generalize e1 : upd (upd H P (.tbl (ps ++ #[rawInt pos.line, rawInt pos.col, .ref c']))) c' (LamX.CodeO c' (X.env.qual ++ "<lambda>")) = H1 at I1
    have b1 : But P H H1 := fun b o hb e => by rw [← e1, upd_ne (ne_of_none e nc), upd_ne hb]; exact e
    have hP1 : H1 P = some (.tbl (ps ++ #[rawInt pos.line, rawInt pos.col, .ref c'])) := by rw [← e1, upd_ne nP, upd_same]
    have hc1 : H1 c' = some (LamX.CodeO c' (X.env.qual ++ "<lambda>")) := by rw [← e1, upd_same]
    have t1 : LamX.TabS H1 P (X.env.qual ++ "<lambda>") := by
      have eL : (ps ++ #[rawInt pos.line, rawInt pos.col, .ref c']).toList = ps.toList ++ [rawInt pos.line, rawInt pos.col, .ref c'] := by simp
      refine ⟨_, hP1, ?_, fun p' cv hcv => ?_⟩
      · rw [eL]; exact PySem.TriplesOk_snoc _ _ _ _ ht
      · rw [eL] at hcv
        rcases LamX.among_app _ ht hcv with z | z
        · obtain ⟨c0, g1, g2⟩ := ha p' cv z
          refine ⟨c0, g1, b1 _ _ (fun y => ?_) g2⟩
          rw [y, hP] at g2
          exact LamX.codeO_ne ps (Option.some.inj g2).symm
        · exact ⟨c', z, hc1⟩
    have I2 := I1.laid (a := h'.objs.size) (o := LmO (X.env.qual ++ "<lambda>") X.env.cells ⟨params, body, scope⟩ h'.objs.size c' ((X.mg "__name__").getD .none) ctv) (t' := tk) (fun b u e => Heap.get?_push_of_some _ e) (Nat.le_refl _)
      ⟨Heap.get?_push_size _ rfl, ⟨_, Heap.get?_push_size _ rfl⟩, fun h1 h2 a st => st _ a⟩
    have nf : H1 h'.objs.size = none := I1.hok.fresh (Nat.le_refl _)
    have sm := same_new (o := LmO (X.env.qual ++ "<lambda>") X.env.cells ⟨params, body, scope⟩ h'.objs.size c' ((X.mg "__name__").getD .none) ctv) nf
    refine ⟨.ref h'.objs.size, _, I2, rfl, h _ _ (fun b o hb e => sm b o (b1 b o hb e)) (t1.ext sm) ⟨_, c', _, ctv, rfl, upd_same, sm _ _ hc1⟩⟩
/-- what a lambda does when it is called: t tells -/
structure LmK (X : Cx) (k : Nat) (d : Lm) (t : XK → TE) : Prop where
  s : LamX.LamS X.env.scope d.scope
  b : ∀ (q : Str) (cl : List (Str × Addr)) (pm cv ctv : Value), bindArgs (PySem.W.kla_fn "<lambda>" q d.params d.body d.scope cl pm cv ctv) ⟨[], []⟩ = pure []
  r : ∀ (A : Around) (outer : List Env) (s : Shared) (H : Hp) (E : XK) (f c' : Addr), Room k (A.deeper (LamX.lamEnv X d.scope s.heap.objs.size f c')) → PE (LamX.lamCx X A outer s H E d.scope f c') d.body (t E)
section
variable {X : Cx} {pins : List (Addr × Obj)} {σ : L2.St} {H : Hp} {s : Shared}
/-- x(), in a def that got the lambda, x in slot i -/
theorem pe_lmv {CXg : CXT} {Eg : XK} {Ng : List Str} {qg : Str} {sg : Scope} {g : Addr} {cdg : Value} {k i : Nat} {a : Str} {pn : List (Addr × Obj)} {xe : Value → Shared → Prop} {W : WX} {p1 p2 : Pos}
    (I : Inv X pins σ H s) (tk : Takes ((cxOf CXg X.prog X.w X.K X.mg X.base Ng qg sg g cdg X.A X.stack s H Eg).tr pn xe) W) (hr : Room (k + 1) (X.A.deeper (envOfC qg sg s.heap.objs.size g cdg)))
    (hN : Ng[i]? = some a) (hv : Vis sg a) (hd : (a == ("__debug__" : Str)) = false := by decide) (hcd : (a == ("__classdict__" : Str)) = false := by decide) :
    PE ((cxOf CXg X.prog X.w X.K X.mg X.base Ng qg sg g cdg X.A X.stack s H Eg).tr pn xe) (.Call (.Name a p1) [] [] p2)
      (fun σZ HZ Q => ∃ (E : XK) (d : Lm) (t : XK → TE) (v : V), (∀ cls d H', E cls d H' → W cls d σZ H') ∧ σZ[i]? = some (some v) ∧ LmV (X.env.qual ++ "<lambda>") X.env.cells d HZ v ∧ LmK X k d t ∧ t E σ HZ Q) := by
  refine ⟨fun pinsZ sZ σZ HZ Q IZ ⟨E, d, t, v, hW, hs, ⟨f, c', pm, ctv, ev, hf, hc⟩, K0, ht⟩ => ?_⟩
  subst ev
  refine wpAny_Call_Name_kw (thn ((pe_var (pos := p1) (i := i) hN hv hd hcd).run pinsZ sZ σZ HZ (fun v H1 => v = .ref f ∧ H1 = HZ) IZ ⟨.ref f, hs, rfl, rfl⟩) fun u s1 ⟨v, H1, I1, r1, q1, q2⟩ => ?_)
  subst q1
  subst q2
  obtain rfl : u = Value.ref f := r1
  have of1 : s1.heap.get? f = some _ := (I1.hok f _ hf).1
  refine PySem.W.callWith_F0 ⟨_, _, _, _, of1⟩ ?_
  have un : Un (frs X.stack) [] H H1 s.heap s1.heap := I1.base
  obtain ⟨⟨oc, vs, tv, hoc, hdc, hvc⟩, _, _⟩ := I1.hok c' _ hc
  have rc : codeAny (model X.prog X.w) (X.A.deeper (envOfC qg sg s.heap.objs.size g cdg)) (.call (.ref f) ⟨[], []⟩) (CR (L2.CX X.prog X.w) (envOfC qg sg s.heap.objs.size g cdg :: X.stack) X.prog X.w H1 s1 Q E) s1 := by
    refine PySem.W.kla_callFunE hr.depth of1 rfl K0.s.co K0.s.gen rfl ⟨c', oc, vs, tv, rfl, hoc, hdc, hvc⟩ ?_
    rw [K0.b]
    refine wpAny_pure (wpAny_newFunctionEnv (fun y hy => (K0.s.own y hy).2) (fun y hy => absurd hy (by simp)) (fun h₁ hns hsb => ⟨I1.nolimit.fresh _ hsb, ?_⟩) K0.s.kind)
    have kp : ∀ b o, s1.heap.get? b = some o → h₁.get? b = some o := fun b o e => (hsb.extBut b o (Nat.ne_of_lt (Heap.lt_size e))) (Heap.get?_push_of_some _ e)
    have J : Inv (LamX.lamCx X (X.A.deeper (envOfC qg sg s.heap.objs.size g cdg)) (envOfC qg sg s.heap.objs.size g cdg :: X.stack) s1 H1 E d.scope f c') [] σ H1 { s1 with heap := h₁, toks := s1.toks + ([] : List (Str × Value)).length } :=
      LamX.lam_start2 I K0.s I1.env0 hr.hd un hns kp
    refine PySem.W.kla_codeExpr (wpAny_mono ((K0.r _ _ s1 H1 E f c' (hr.deeper _)).run [] _ _ H1 Q J ht) (fun v s' ⟨w', H', J', rv, q⟩ => ?_) fun e s' hq => hq)
    exact ⟨w', H', J'.os, J'.bare, J'.base, J'.hok, rv, q⟩
  refine wpAny_call (codeAny_mono rc fun r s' hq => ?_)
  match r, hq with
  | .error e, hq => exact tk e s' (XE.of_call I1 (fun cls d H' h => hW cls d H' h) hq)
  | .ok (.ret u), hq => exact I1.after hq
  | .ok .next, hq => exact False.elim hq
  | .ok .brk, hq => exact False.elim hq
  | .ok .cont, hq => exact False.elim hq
end
end Kp

set_option Elab.async false
set_option linter.all false
set_option maxRecDepth 100000
set_option maxHeartbeats 2000000
namespace Kp
open PySem PySem.Spec PyProof.Rows L2 SlX
/-! ### a list comprehension whose element knows of the def around it -/
/-- back from the block to the def -/
theorem blk_back {X : Cx} {pins pins' : List (Addr × Obj)} {σ σ' : L2.St} {H H' : Hp} {s s' : Shared} {scope : Scope} {ce : Env} {fp : List Addr} (I : Inv X pins σ H s) (f : ∀ b ∈ fp, FpOk X pins H b ∧ b < s.heap.objs.size) (J : Inv (X.blk s H scope ce fp) pins' σ' H' s') : Inv X pins σ H' s' :=
  I.call' (ch := fp) J.os J.base J.hok J.bare fun b hb => by
    obtain ⟨_, f1, _, f3, f4, f5⟩ := (f b hb).1
    exact ⟨f3, f1, f4, f5⟩
def tLcI (wi : TI) (g : TG) (tt : TT) (te : L2.St → TE) (vs : List Nat) : TE := fun σ H Q => tLc wi g tt (te σ) vs σ H Q
section
variable {X : Cx}
theorem pe_lcI {elt tg iter : Expr} {ifs : List Expr} {scope : Scope} {own : List (Str × Nat)} {pos : Pos} {wi : TI} {g : TG} {tt : TT} {te : L2.St → TE} (hc : X.calm = true) (hN : X.N.Nodup) (hi : PI X tg iter wi) (ok : BlkOk X.N X.env.scope scope own)
    (hg : ∀ (s0 : Shared) (H0 : Hp) (C : Addr) (cl : List (Str × Addr)) (fp : List Addr), PG (X.blk s0 H0 scope (compEnvC scope cl C X.env) fp) tg g)
    (ht : ∀ (s0 : Shared) (H0 : Hp) (C : Addr) (cl : List (Str × Addr)) (fp : List Addr), PTs (X.blk s0 H0 scope (compEnvC scope cl C X.env) fp) ifs tt)
    (he : ∀ (pins : List (Addr × Obj)) (s0 : Shared) (σ : L2.St) (H0 : Hp) (C : Addr) (cl : List (Str × Addr)) (fp : List Addr), Inv X pins σ H0 s0 → (∀ b ∈ fp, FpOk X pins H0 b ∧ b < s0.heap.objs.size) → PE (X.blk s0 H0 scope (compEnvC scope cl C X.env) fp) elt (te σ))
    (hs : ∀ x, foldedSetIterable iter X.env x = pure x := by intro _; rfl) :
    PE X (.ListComp elt [⟨tg, iter, ifs, 0⟩] scope pos) (tLcI wi g tt te (own.map (·.2))) := by
  refine ⟨fun pins s σ H Q I h => ?_⟩
  have h' : tLc wi g tt (te σ) (own.map (·.2)) σ H Q := h
  have free : ∀ y ∈ scope.names, y.2 = .free → ∃ c, X.env.cells.lookup y.1 = some c := fun y m e => (ok.free y m e).elim (fun k => I.ok.has _ (.inl k)) fun k => I.ok.has _ (.inr k)
  rw [eval_ListComp]
  refine wpAny_comprehension_free (use := none) rfl hs (closure_ok free) ok.kind (fun y m e => by rw [ok.uniq y m, e]) (thn (hi.run pins s σ H _ I h') fun xv s1 q1 => thn q1 fun itv s2 ⟨it, fp, tn, J, H2, ei, I2, T, st2, f2, q⟩ => ?_)
  subst ei
  refine wpAny_newObj_type (newEnv_comp ?_) (Nat.zero_le _)
  -- the list that grows
  obtain ⟨W, ⟨m0, w0⟩, turn⟩ := q s2.heap.objs.size (I2.hok.fresh (Nat.le_refl _))
  have I3 : Inv X pins σ (upd H2 s2.heap.objs.size (.lst [])) { s2 with heap := s2.heap.push { cls := .type "list", data := .seq ([] : List Value).toArray } } :=
    I2.laid (t' := s2.toks) (fun b o e => Heap.get?_push_of_some _ e) (Nat.le_refl _) ⟨Nat.zero_le _, [], 0, .nil, Heap.get?_push_size _ rfl⟩
  have lt2 : ∀ b ∈ fp, b < s2.heap.objs.size := fun b m => by
    obtain ⟨o, e, _⟩ := T.obj _ _ st2 b m
    exact Heap.lt_size e
  have st3 : tn 0 (s2.heap.push { cls := .type "list", data := .seq ([] : List Value).toArray }) := T.keep _ _ _ st2 fun b _ o e => Heap.get?_push_of_some _ e
  have sz3 : (s2.heap.push { cls := .type "list", data := .seq ([] : List Value).toArray }).objs.size = s2.heap.objs.size + 1 := Heap.size_push ..
  have f3 : ∀ b ∈ fp, FpOk X pins (upd H2 s2.heap.objs.size (.lst [])) b := fun b m => ⟨by rw [upd_ne (Nat.ne_of_lt (lt2 b m))]; exact (f2 b m).1, (f2 b m).2⟩
  generalize s2.heap.objs.size = D at *
  generalize hs3 : ({ s2 with heap := s2.heap.push { cls := .type "list", data := .seq ([] : List Value).toArray } } : Shared) = s3 at I3 ⊢
  have e3 : s3.heap = s2.heap.push { cls := .type "list", data := .seq ([] : List Value).toArray } := by rw [← hs3]
  rw [← e3] at st3 sz3
  have f4 : ∀ b ∈ fp, FpOk X pins (upd H2 D (.lst [])) b ∧ b < s3.heap.objs.size := fun b m => ⟨f3 b m, by rw [sz3]; exact Nat.lt_succ_of_lt (lt2 b m)⟩
  generalize upd H2 D (.lst []) = H3 at *
  have I4 := block_start I3 ok hN f4
  have fB := f4
  generalize hcl : cellsFrom (s3.heap.objs.size + 1) scope.names (cloFrom X.env.cells scope.names []) = cl at I4
  have pg := hg s3 H3 s3.heap.objs.size cl fp
  have pt := ht s3 H3 s3.heap.objs.size cl fp
  have pe := he pins s3 σ H3 s3.heap.objs.size cl fp I3 f4
  have cL : (compEnvC scope cl s3.heap.objs.size X.env).locals = s3.heap.objs.size := rfl
  show codeAny _ _ (.compStart (.ListComp elt [⟨tg, iter, ifs, 0⟩] scope pos) 0 (.ref it) (.ref D) (compEnvC scope cl s3.heap.objs.size X.env)) (compPost (model X.prog X.w) X.A X.xe none (EP X pins σ Q) (.ref D) s3.heap.objs.size) { s3 with heap := pushCells (s3.heap.push { cls := .type "dict", data := .dict #[] }) scope.names }
  generalize compEnvC scope cl s3.heap.objs.size X.env = ce at *
  have st4 : tn 0 (pushCells (s3.heap.push { cls := .type "dict", data := .dict #[] }) scope.names) := T.keep _ _ _ st3 fun b _ o e => pushCells_keeps _ _ _ _ (Heap.get?_push_of_some _ e)
  generalize hs4 : ({ s3 with heap := pushCells (s3.heap.push { cls := .type "dict", data := .dict #[] }) scope.names } : Shared) = s4 at I4 ⊢
  have e4 : s4.heap = pushCells (s3.heap.push { cls := .type "dict", data := .dict #[] }) scope.names := by rw [← hs4]
  rw [← e4] at st4
  have fpB : ∀ {σ' : L2.St} {H' : Hp} {s' : Shared}, Inv (X.blk s3 H3 scope ce fp) [] σ' H' s' → (∀ b ∈ fp, H' b = none) → ∀ b ∈ fp, FpOk (X.blk s3 H3 scope ce fp) [] H' b := fun {_ H' _} J n b m => by
    have x1 := J.ok.exf b m
    exact ⟨n b m, x1.1, J.ok.exfs b m, .inl m, fun y c e => x1.2 y c e, fun p hp => by cases (show p ∈ ([] : List (Addr × Obj)) from hp)⟩
  have go : codeAny (model X.prog X.w) X.A (.compLoop (.ListComp elt [⟨tg, iter, ifs, 0⟩] scope pos) 0 (.ref it) (.ref D) ce) (compPost (model X.prog X.w) X.A X.xe none (EP X pins σ Q) (.ref D) s3.heap.objs.size) s4 := by
    refine compLoop_any (fun n s' => ∃ i H', Inv (X.blk s3 H3 scope ce fp) [] (wipe σ (own.map (·.2))) H' s' ∧ (tn i s'.heap ∧ ∀ b ∈ fp, H' b = none) ∧ W i n H') ?_ m0 ⟨0, H3, I4, ⟨st4, fun b m => (f4 b m).1.1⟩, w0⟩
    rintro n s5 ⟨i, H5, I5, ⟨st5, n5⟩, w5⟩
    rcases turn i n H5 w5 with ⟨stop, qe⟩ | ⟨more, Nx, hNx, step⟩
    · -- the end
      refine thnF (T.done (X.blk s3 H3 scope ce fp) rfl rfl rfl hc i [] s5 _ H5 (fun _ _ => False) I5 (fpB I5 n5) st5 stop) fun r s6 ⟨er, I6⟩ => ?_
      subst er
      have nC : H5 s3.heap.objs.size = none := by rw [← cL]; exact I6.free
      obtain ⟨m, hn, _⟩ := I6.loc
      have hn : s6.heap.Ns ce.locals m := hn
      rw [cL] at hn
      obtain ⟨f0, f1, f2, f3, f4, f5⟩ := I3.fpOk (Nat.le_refl _) nC
      exact ⟨m, hn, fun h'' sb => ⟨.ref D, H5, (blk_back I3 fB I6).turned (t' := s6.toks) (fun b o hb e => (sb.2 b hb).trans e) f0 f1 f3 f4 f5, rfl, qe⟩⟩
    · -- one turn more
      refine thnF (T.item (X.blk s3 H3 scope ce fp) rfl rfl rfl hc i [] s5 _ H5 (fun _ _ => False) I5 (fpB I5 n5) st5 more) fun r s6 ⟨u, er, h6⟩ => ?_
      subst er
      refine thnF h6 fun _ s7 ⟨x, H7, I7, r7, y7, st7, n7⟩ => ?_
      have P7 := I7.pinned (fpB I7 n7) (T.obj _ _ st7)
      refine thnF (pg.run _ s7 _ H7 x u _ P7 r7 (step x H7 y7)) fun _ s8 ⟨σ8, H8, I8, w8, q8⟩ => thnF (pt.run _ s8 σ8 H8 _ I8 q8) fun b s9 ⟨H9, I9, q9⟩ => ?_
      have close : ∀ {s' : Shared} {H' : Hp}, Inv (X.blk s3 H3 scope ce fp) ([] ++ pinsAt fp s7.heap) σ8 H' s' → Nx H' → ∃ m, m < n ∧ ∃ i H', Inv (X.blk s3 H3 scope ce fp) [] (wipe σ (own.map (·.2))) H' s' ∧ (tn i s'.heap ∧ ∀ b ∈ fp, H' b = none) ∧ W i m H' := fun {s' H'} J nx => by
        obtain ⟨m', lt, w'⟩ := hNx H' nx
        have pin : ∀ b ∈ fp, ∀ o, s7.heap.get? b = some o → s'.heap.get? b = some o ∧ H' b = none := fun b m o e => by
          have z := J.pin (b, o) (List.mem_append_right _ (List.mem_append_right _ (mem_pinsAt m e)))
          exact ⟨z.1, z.2.1⟩
        refine ⟨m', lt, i + 1, H', (J.unpinned (pins := [])).weak (by rw [← w8, wipe_length]) (fun j v e => ?_), ⟨T.keep _ _ _ st7 fun b m o e => (pin b m o e).1, fun b m => ?_⟩, w'⟩
        · rw [← w8] at e
          exact (wipe_some e).1
        · obtain ⟨o, e, _⟩ := T.obj _ _ st7 b m
          exact (pin b m o e).2
      cases b with
      | false =>
        rw [if_neg Bool.false_ne_true] at q9 ⊢
        exact close I9 q9
      | true =>
        rw [if_pos rfl] at q9 ⊢
        exact thnF (pe.run _ s9 σ8 H9 _ I9 q9) fun z s10 ⟨yv, H10, I10, r10, acc, hD, hz, nx⟩ => app_ok (X := X.blk s3 H3 scope ce fp) I10 hD hz r10 fun s11 I11 => close I11 nx
  exact codeAny_compStart_list go (T.self X.A 0 _ _ _ st4 go)
end
end Kp

set_option Elab.async false
set_option linter.all false
set_option maxRecDepth 100000
set_option maxHeartbeats 2000000
namespace Kp
open PySem PySem.Spec PyProof.Rows L2 SlX
/-- of the classes that or_unlike asks for -/
structure Ux (K : PySem.W.Frag) (mg : Str → Option Value) (U KE : Addr) : Prop where
  gK : mg "KeptError" = some (.ref KE)
  gU : mg "Unlike" = some (.ref U)
  xm : PySem.W.exmOne K (.ref U) (.ref KE) = some true
  ki : PySem.W.kitOne K (.ref U) (.ref U) = some true
  xc : ExcC K U
abbrev s_Lor : Stmt := topS 37
abbrev N_Lor : List Str := ["_law_act", "e"]
theorem sc_Lor : FnScope N_Lor ["_law_act"] (defScope s_Lor) := ⟨rfl, rfl, rfl, by decide +kernel, rfl, by decide +kernel, by decide +kernel⟩
/-- what is wished of the lambda: raised, told -/
def wUn (U : Addr) (Q : VK) : XK := fun cls d H => cls = .ref U ∧ d = none ∧ ∀ p, H p = none → Q (.ref p) (upd H p (.tup [.str "unlike", .non]))
def wTold (Q : VK) : VK := fun v H => 2 ≤ sizeLine ∧ ∀ p, H p = none → Q (.ref p) (upd H p (.tup [.str "told", v]))
section
variable {X : Cx} {pins : List (Addr × Obj)} {σ : L2.St} {H : Hp} {s : Shared} {U KE : Addr}
theorem or_body (T : Bi X.mg) (Vx : Ux X.K X.mg U KE) (I : Inv X pins σ H s) {g : Addr} {cdg : Value} {k : Nat} (hr : Room (k + 1) (X.A.deeper (envOfC "_law_or_unlike" (defScope s_Lor) s.heap.objs.size g cdg))) {Q : VK} {v : V} {d : Lm} {t : XK → TE}
    (hv : LmV (X.env.qual ++ "<lambda>") X.env.cells d H v) (hk : LmK X k d t) (h : t (wUn U Q) σ H (wTold Q)) :
    ∃ t, PSs (cxOf CX0 X.prog X.w X.K X.mg X.base N_Lor "_law_or_unlike" (defScope s_Lor) g cdg X.A X.stack s H E0).nox (defBody s_Lor) t ∧ t { nx := fun _ H' => Q .non H', rt := Q } (start N_Lor [v]) H := by
  refine ⟨_, pss_one (ps_try_as (i := 1) (c := .ref KE)
      (ts := fun a cls d D σ H => cls = .ref U ∧ d = none ∧ σ[1]? = some (some (.ref a)) ∧ ∀ p, H p = none → D.rt (.ref p) (upd H p (.tup [.str "unlike", .non])))
      rfl rfl sc_Lor.nd rfl rfl ⟨rfl, by decide, .inl Vx.gK⟩ takes0 (fun W pn xe tk _ => pss_one (ps_ret (pe_tup (pa_cons pe_str (pa_cons (pe_lmv (CXg := CX0) (Eg := E0) (i := 0) I tk hr (by rfl) (.inl rfl)) pa_nil))))) (fun a oe cls d pn hz hf => ?_)), ?_⟩
  · refine ⟨fun pins' s' σZ HZ D J ⟨e1, e2, h1, h2⟩ => ?_⟩
    subst e1
    subst e2
    refine PSs.run (X := ((cxOf CX0 X.prog X.w X.K X.mg X.base N_Lor "_law_or_unlike" (defScope s_Lor) g cdg X.A X.stack s H E0).nox.suite a ((a, oe) :: pn))) (pss_one (ps_ret (pe_ifExp (pt_val (pe_callB (call_isE (X := (cxOf CX0 X.prog X.w X.K X.mg X.base N_Lor "_law_or_unlike" (defScope s_Lor) g cdg X.A X.stack s H E0).nox) Vx.xc hz hf) (by rfl) T.b_isinstance (by decide +kernel) (pa_cons (pv 1) (pa_cons (pe_glob (x := "Unlike") (v := .ref U) rfl Vx.gU rfl) pa_nil)))) (pe_tup (pa_cons pe_str (pa_cons pe_non pa_nil))) (pe_tup (pa_cons pe_str (pa_cons pe_non pa_nil)))))) pins' s' σZ HZ D J ?_
    refine ⟨_, h1, .ref U, .ref U, true, rfl, fun u r => r, Vx.ki, _, rfl, iteT ⟨by show 2 ≤ sizeLine; decide, h2⟩⟩
  · exact ⟨wUn U Q, d, t, v, fun cls dd H' ⟨e1, e2, e3⟩ => ⟨true, by rw [e1]; exact Vx.xm, fun _ a na => ⟨e1, e2, rfl, e3⟩, fun z => by cases z⟩, rfl, hv, hk, h⟩
end
end Kp

set_option Elab.async false
set_option linter.all false
set_option maxRecDepth 100000
set_option maxHeartbeats 2000000
namespace Kp
open PySem PySem.Spec PyProof.Rows L2 SlX
/-- or_unlike, as it stands in the module -/
structure OrC (K : PySem.W.Frag) (mg : Str → Option Value) : Prop where
  ex : ∃ (g : Addr) (fd : FuncData), Fun K "_law_or_unlike" "_law_or_unlike" s_Lor g fd ∧ mg "_law_or_unlike" = some (.ref g) ∧ L2.Binds K fd ["_law_act"] []
/-- or_unlike(x) in a comprehension, x a lambda of the def around -/
def tOr (X : Cx) (k : Nat) (U : Addr) (i : Nat) (σ : L2.St) : TE := fun σ2 H Q => ∃ (v : V) (d : Lm) (t : XK → TE), σ2[i]? = some (some v) ∧ LmV (X.env.qual ++ "<lambda>") X.env.cells d H v ∧ LmK X k d t ∧ t (wUn U Q) σ H (wTold Q)
section
variable {X : Cx} {U KE : Addr}
theorem pe_or {pins : List (Addr × Obj)} {σ : L2.St} {H0 : Hp} {s0 : Shared} {scope : Scope} {ce : Env} {fp : List Addr} {i k : Nat} {p pa pos : Pos} {a : Str} (O : OrC X.K X.mg) (T : Bi X.mg) (Vx : Ux X.K X.mg U KE) (hr : Room (k + 2) X.A)
    (I : Inv X pins σ H0 s0) (f : ∀ b ∈ fp, FpOk X pins H0 b ∧ b < s0.heap.objs.size) (hg : Gl (X.blk s0 H0 scope ce fp) "_law_or_unlike") (hN : X.N[i]? = some a) (hv : Vis ce.scope a) (hd : (a == ("__debug__" : Str)) = false := by decide) (hcd : (a == ("__classdict__" : Str)) = false := by decide) :
    PE (X.blk s0 H0 scope ce fp) (.Call (.Name "_law_or_unlike" p) [.Name a pa] [] pos) (tOr X k U i σ) := by
  refine ⟨fun pins' s σ2 H Q J ⟨v, d, t, hs, hl, hk, ht⟩ => ?_⟩
  obtain ⟨g, fd, F, hm, hb⟩ := O.ex
  refine wpAny_Call_Name_kw (ld_glob J hg hm ?_ (by decide))
  have pv1 : PE (X.blk s0 H0 scope ce fp) (.Name a pa) (tVar i) := pe_var (i := i) hN hv hd hcd
  refine PySem.W.callWith_K (h₀ := X.base) J.ok.mod.kin F.kp (thn ((pa_cons pv1 pa_nil).run pos pins' s σ2 H (fun vs H1 => vs = [v] ∧ H1 = H) J ⟨v, hs, rfl, rfl⟩) fun us s1 ⟨vs, H1, J1, r, q1, q2⟩ => ?_) (by rfl) (by rfl)
  subst q1
  subst q2
  have I1 : Inv X pins σ H1 s1 := blk_back I f J1
  obtain ⟨oc, od, kV, doc, pm, an, cdv, ct, osl, rfl, lk, hcc⟩ := F.ex
  have ul : us.length = 1 := r.length.symm
  have bt := hb s1 us J1.kIn (by rw [List.append_nil]; exact ul)
  rw [List.append_nil] at bt
  have rc : codeAny (model X.prog X.w) X.A (.call (.ref g) ⟨us, []⟩) (CR CX0 X.stack X.prog X.w H1 s1 Q E0) s1 := by
    refine LamX.run_ofS (N := N_Lor) (ps := ["_law_act"]) (us := us) (vs := [v]) lk hcc sc_Lor hr I1.env0 bt r rfl fun hr' => ?_
    obtain ⟨t', h1, h2⟩ := or_body (KE := KE) T Vx I1 hr' hl hk ht
    exact ⟨t', h1.nox, h2⟩
  refine ⟨J1.kIn, wpAny_call (codeAny_mono rc fun r s2 hq => ?_)⟩
  match r, hq with
  | .error e, hq => exact False.elim hq
  | .ok (.ret u), hq => exact J1.after hq
  | .ok .next, hq => exact False.elim hq
  | .ok .brk, hq => exact False.elim hq
  | .ok .cont, hq => exact False.elim hq
end
end Kp

set_option Elab.async false
set_option linter.all false
set_option maxRecDepth 100000
set_option maxHeartbeats 2000000
namespace Kp
open PySem PySem.Spec PyProof.Rows L2 SlX
/-! ### the law: what holds between its statements -/
/-- the name of the law's lambdas -/
def lamQ : Str := "law.<locals>.<lambda>"
structure Ls (b P : Addr) (G H : Hp) : Prop where
  bs : Bs b G H
  tb : LamX.TabS H P lamQ
  pb : P ≠ b
  gP : G P = none
section
variable {b P p : Addr} {G H G' H' : Hp} {o : HO}
theorem Ls.hP (s : Ls b P G H) : H P ≠ none := by
  obtain ⟨ps, h, _⟩ := s.tb
  rw [h]; simp
theorem Ls.pure (s : Ls b P G H) (e : Same H H') : Ls b P G H' := ⟨⟨s.bs.fz.trans e, s.bs.bag.sameH e (Same.refl _), s.bs.gb⟩, s.tb.ext e, s.pb, s.gP⟩
theorem Ls.draw (s : Ls b P G H) (B : Bs b G (upd H b o)) : Ls b P G (upd H b o) := by
  refine ⟨B, ?_, s.pb, s.gP⟩
  obtain ⟨l, z0, z1, z2, ns, hb, _⟩ := s.bs.bag
  obtain ⟨ps, h1, h2, h3⟩ := s.tb
  refine ⟨ps, by rw [upd_ne s.pb]; exact h1, h2, fun pos cv hc => ?_⟩
  obtain ⟨c, e1, e2⟩ := h3 pos cv hc
  refine ⟨c, e1, ?_⟩
  rw [upd_ne fun z => ?_]
  · exact e2
  · rw [z, hb] at e2
    unfold LamX.CodeO at e2
    cases e2
theorem Ls.callB (s : Ls b P G H) (g : Gr (· = b) G H G' H') (h : BagAt G' H' b) : Ls b P G' H' := by
  refine ⟨s.bs.gr g h, ?_, s.pb, by rw [g.new P s.hP]; exact s.gP⟩
  obtain ⟨l, z0, z1, z2, ns, hb, _⟩ := s.bs.bag
  obtain ⟨ps, h1, h2, h3⟩ := s.tb
  refine ⟨ps, g.old _ _ s.pb h1, h2, fun pos cv hc => ?_⟩
  obtain ⟨c, e1, e2⟩ := h3 pos cv hc
  refine ⟨c, e1, g.old _ _ (fun z => ?_) e2⟩
  rw [show c = b from z, hb] at e2
  unfold LamX.CodeO at e2
  cases e2
theorem Ls.call0 (s : Ls b P G H) (g : Gr W0 G H G' H') : Ls b P G' H' := s.callB g.wide (g.bag0 s.bs.bag)
theorem Ls.ne (s : Ls b P G H) (n : H p = none) : p ≠ b := fun e => s.bs.bag.some (by rw [← e]; exact n)
theorem Ls.junk (s : Ls b P G H) (n : H p = none) : Ls b P G (upd H p o) := s.pure (same_new n)
theorem Ls.new (s : Ls b P G H) (n : H p = none) : Ls b P (upd G p o) (upd H p o) := s.call0 (Gr.fix s.bs.fz n)
theorem Ls.fix (s : Ls b P G H) (h : H p = some o) (g : G p = none) (pb : p ≠ b) (pP : p ≠ P) : Ls b P (upd G p o) H := by
  refine ⟨⟨fun c u e => ?_, ?_, by rw [upd_ne pb.symm]; exact s.bs.gb⟩, s.tb, s.pb, by rw [upd_ne pP.symm]; exact s.gP⟩
  · by_cases z : c = p
    · rw [z, upd_same] at e
      rw [z, h]; exact e
    · rw [upd_ne z] at e
      exact s.bs.fz _ _ e
  · exact s.bs.bag.sameH (Same.refl _) (same_new g)
theorem Ls.lam (s : Ls b P G H) (e : But P H H') (t : LamX.TabS H' P lamQ) : Ls b P G H' := by
  refine ⟨⟨fun a u g => e a u (fun z => ?_) (s.bs.fz _ _ g), ?_, s.bs.gb⟩, t, s.pb, s.gP⟩
  · rw [z, s.gP] at g; cases g
  · obtain ⟨l, z0, z1, z2, ns, h1, h2, r⟩ := s.bs.bag
    exact ⟨l, z0, z1, z2, ns, e _ _ s.pb.symm h1, h2, r⟩
theorem Ls.mix {N H2 : Hp} (s : Ls b P G H) (a : Nw H N H2) : Ls b P (mixH G N) H2 := s.call0 ((Gr.refl s.bs.fz).mix (fun _ z => z.elim) a)
theorem Ls.mixr {N H2 : Hp} (s : Ls b P G H) (a : Nw H N H2) : Same N (mixH G N) := mix_r s.bs.fz a.fresh
/-- a list that is not frozen is changed -/
theorem Ls.chg (s : Ls b P G H) {xs : List V} (h : H p = some (.lst xs)) (g : G p = none) (pb : p ≠ b) : Ls b P G (upd H p o) := by
  refine ⟨⟨fun c u e => ?_, s.bs.bag.ne pb.symm, s.bs.gb⟩, ?_, s.pb, s.gP⟩
  · rw [upd_ne fun z => by rw [z, g] at e; cases e]
    exact s.bs.fz _ _ e
  · obtain ⟨ps, h1, h2, h3⟩ := s.tb
    refine ⟨ps, ?_, h2, fun pos cv hc => ?_⟩
    · rw [upd_ne fun z => by rw [z, h] at h1; cases h1]
      exact h1
    · obtain ⟨c, e1, e2⟩ := h3 pos cv hc
      refine ⟨c, e1, ?_⟩
      rw [upd_ne fun z => by rw [z, h] at e2; unfold LamX.CodeO at e2; cases e2]
      exact e2
end
/-! ### what the law calls -/
structure Env92 (P : Program) (w : World) (K : PySem.W.Frag) (mg : Str → Option Value) (base : Heap) (C U KE : Addr) : Prop where
  t : Bi mg
  sb : SysB base
  m : Mm P w K mg base C
  mi : Mi K C
  mkr : ∃ (fI : Addr) (fd : FuncData), Mk K C fI ∧ FnOk P w K mg base CX0 4 fI fd ["self", "inputs", "rules"] (spInit K C) ∧ L2.Binds K fd ["self", "inputs", "rules"] []
  tk : CTake P w K mg base
  co : COne P w K mg base
  cn : Cal P w K mg base CX0 2 "_law_names" ["_law_bag_here", "_law_size"] (spNames K)
  cr : Cal P w K mg base CX0 3 "_law_rules" ["_law_bag_here", "_law_inputs", "_law_size", "_law_outs"] (spRules K)
  cnr : Cal P w K mg base CX0 3 "_law_near_rules" ["_law_bag_here", "_law_rules_here", "_law_outs"] (spNear K)
  cd : Cal P w K mg base CX0 2 "_law_doubled" ["_law_bag_here", "_law_rules_here"] (spDoubled K)
  cf : Cal P w K mg base CX0 1 "_law_fewest" ["_law_rules_here"] (spFewest K)
  cm : Cal P w K mg base CX0 1 "_law_met" ["_law_ones"] (spMet K)
  cc : Cal P w K mg base CX0 3 "_law_are_closed" ["_law_one_here", "_law_other", "_law_thing"] (spLAreClosed K)
  cb : Cal P w K mg base CX0 4 "_law_bent" ["_law_bag_here", "_law_one_here", "_law_other", "_law_some"] (spBent K)
  cg : Cal P w K mg base CX0 1 "_law_bag" ["_law_script"] (spBag K)
  ca : CalG P w K mg base CX0 1 "_law_alike" ["_law_found", "_law_due"] (spAlike K)
  cp : Cal P w K mg base (L2.CX P w) 3 "pairs" ["one", "other"] (spPairs K C U)
  cs : Cal P w K mg base (L2.CX P w) 4 "say_same" ["one", "other"] (spSaySame K C U)
  ap : Cal P w K mg base (L2.CX P w) 4 "are_pairs" ["one", "other", "thing"] (spArePairs K C U)
  oc : OrC K mg
  ux : Ux K mg U KE
/-! ### a machine made -/
theorem mk_step {K : PySem.W.Frag} {C b P a : Addr} {v : V} {G H : Hp} {ins : List Str} {rs : List Row} {E : XK} {Q : Addr → Hp → Prop} (s : Ls b P G H) (ha : SqL K G a (ins.map V.str)) (oi : OkIns ins) (hv : DD K G v (rulesD rs)) (ok : OkRules ins rs)
    (k : ∀ G' H' x ss, Ls b P G' H' → Same G G' → Same H H' → Ma K C G' (.ref x) ss (rs.map (reord ss)) → ss.Perm ins → sortedS ss = true → Q x H') :
    ∀ x dx, H x = none → H dx = none → dx ≠ x → spInit K C [.ref x, .ref a, v] (upd (upd H dx (.own x)) x (.ins C dx [])) (fun v H2 => v = .non ∧ Q x H2) E := by
  intro x dx hx hdx ne
  have s1 := s.junk (o := .own x) hdx
  have hx1 : upd H dx (.own x) x = none := by rw [upd_ne ne.symm]; exact hx
  have s2 := s1.junk (o := .ins C dx []) hx1
  have gx := none_of s.bs.fz hx
  have gdx := none_of s.bs.fz hdx
  have bx := s.ne hx
  have bdx := s.ne hdx
  have Px : x ≠ P := fun e => s.hP (by rw [← e]; exact hx)
  have Pdx : dx ≠ P := fun e => s.hP (by rw [← e]; exact hdx)
  have e0 : Same H (upd (upd H dx (.own x)) x (.ins C dx [])) := same_chg (same_new hdx) hx
  refine ⟨x, dx, a, v, G, ins, rs, rfl, s2.bs.fz, upd_same, by rw [upd_ne ne, upd_same], gx, gdx, ne, ha, oi, hv, ok, fun G' H' li lr ss g g1 g2 h1 h2 hl p so hd => ⟨rfl, ?_⟩⟩
  have old : ∀ c o, H c = some o → H' c = some o := fun c o h => by
    refine g.old c o (fun z => ?_) (e0 _ _ h)
    rcases z with z | z
    · rw [z, hx] at h; cases h
    · rw [z, hdx] at h; cases h
  have new : ∀ c, H c ≠ none → G' c = G c := fun c h => g.new c (by
    cases e : H c with
    | none => exact absurd e h
    | some o => rw [e0 _ _ e]; simp)
  have s3 : Ls b P G' H' := s.call0 ⟨g.sub, g.fz, fun c o _ h => old c o h, new⟩
  have s4 := (s3.fix h1 g1 bx Px).fix (p := dx) h2 (by rw [upd_ne ne]; exact g2) bdx Pdx
  have u1 : Same G' (upd (upd G' x (SlO x C dx [some (.ref li), some (.ref lr)])) dx (.xd [])) := (same_new g1).trans (same_new (by rw [upd_ne ne]; exact g2))
  refine k _ _ x ss s4 (g.sub.trans u1) old ⟨x, dx, li, lr, rfl, .inr ⟨by rw [upd_ne ne.symm]; exact upd_same, upd_same⟩, u1.seq hl, hd.up u1⟩ p so
end Kp
namespace Kp
open PySem PySem.Spec PyProof.Rows L2 SlX
/-! ### what a turn of the law has drawn -/
structure Dat where
  ai : Addr
  a1 : Addr
  a2 : Addr
  ap : Addr
  ins : List Str
  ss : List Str
  x1 : List V
  x2 : List V
  xs : List V
  r1 : List Row
  r2 : List Row
  v1 : V
  v2 : V
  ms : List Pr
structure Dt (K : PySem.W.Frag) (C : Addr) (G : Hp) (d : Dat) : Prop where
  n : ∃ n, Nms n d.ins ∧ 0 < n ∧ n < 4
  hi : G d.ai = some (.lst (d.ins.map V.str))
  R1 : Ru K G d.a1 d.x1 d.ins d.r1
  R2 : Ru K G d.a2 d.x2 d.ins d.r2
  l1 : d.r1.length ≤ 5
  l2 : d.r2.length ≤ 6
  p : d.ss.Perm d.ins
  so : sortedS d.ss = true
  M1 : Ma K C G d.v1 d.ss (d.r1.map (reord d.ss))
  M2 : Ma K C G d.v2 d.ss (d.r2.map (reord d.ss))
  hs : G d.ap = some (.lst d.xs)
  tu : TupsAt G d.xs d.ms
  nd : d.ms.Nodup
  le : d.ms.Pairwise leP
  mem : ∀ q, q ∈ d.ms ↔ Reach d.ins d.r1 d.r2 q
theorem Dt.up {K : PySem.W.Frag} {C : Addr} {G G' : Hp} {d : Dat} (h : Dt K C G d) (e : Same G G') : Dt K C G' d :=
  ⟨h.n, e _ _ h.hi, h.R1.up e, h.R2.up e, h.l1, h.l2, h.p, h.so, h.M1.up e, h.M2.up e, e _ _ h.hs, h.tu.up e, h.nd, h.le, h.mem⟩
theorem Dt.oi {K : PySem.W.Frag} {C : Addr} {G : Hp} {d : Dat} (h : Dt K C G d) : OkIns d.ins := by
  obtain ⟨n, hn, h0, h1⟩ := h.n
  exact hn.ins h0 (by omega)
theorem Dt.two {K : PySem.W.Frag} {C : Addr} {G : Hp} {d : Dat} (h : Dt K C G d) : TwoM K C G d.v1 d.v2 d.ss d.ss (d.r1.map (reord d.ss)) (d.r2.map (reord d.ss)) :=
  ⟨h.M1, h.M2, h.oi.perm h.p.symm, h.oi.perm h.p.symm, (h.R1.ok.reord h.p).perm h.p.symm, (h.R2.ok.reord h.p).perm h.p.symm⟩
theorem Dt.inr {K : PySem.W.Frag} {C : Addr} {G : Hp} {d : Dat} (h : Dt K C G d) : ∀ p ∈ d.ms, inR d.r1.length d.r2.length p := fun p hp => ((h.mem p).mp hp).inR h.R1.ok h.R2.ok
theorem Dt.few {K : PySem.W.Frag} {C : Addr} {G : Hp} {d : Dat} (h : Dt K C G d) : d.ms.length ≤ 30 := by
  have := few_pairs h.nd h.inr
  have := Nat.mul_le_mul h.l1 h.l2
  omega
theorem Dt.dd {K : PySem.W.Frag} {C : Addr} {G : Hp} {d : Dat} (h : Dt K C G d) : DD K G (.ref d.ap) (.list (d.ms.map pairD)) := .lst (SqL.of h.hs) h.tu.dds
theorem Dt.fine {K : PySem.W.Frag} {C : Addr} {G : Hp} {d : Dat} (h : Dt K C G d) : Fine (.list (d.ms.map pairD)) := fine_pairs (by have := h.few; omega)
/-- the turn's end -/
def Nxt (a b P : Addr) (D : Ends) : Prop := ∀ (G H : Hp) (c2 c3 c4 c5 c6 c7 c8 c9 c10 c11 c12 c13 c14 c15 c16 c17 c18 c19 c20 : Option V), Ls b P G H → D.nx [some (.ref a), some (.ref b), c2, c3, c4, c5, c6, c7, c8, c9, c10, c11, c12, c13, c14, c15, c16, c17, c18, c19, c20] H
abbrev s_law : Stmt := topS 42
abbrev N_law : List Str := ["_law_script", "_law_bag_here", "_law_turn", "_law_inputs", "_law_outs", "_law_one_here", "_law_other", "_law_due", "_law_again", "_law_found", "_law_k", "_law_thing", "_law_text", "_law_good", "_law_acts", "_law_first", "_law_last", "_law_some", "_law_strange", "_law_act", "_law_word"]
theorem sc_law : FnScope N_law ["_law_script"] (defScope s_law) := ⟨rfl, rfl, rfl, by decide +kernel, rfl, by decide +kernel, by decide +kernel⟩
def forB : Stmt → List Stmt
  | .For _ _ b _ _ => b
  | _ => []
/-- the body of the law's loop -/
abbrev turnB : List Stmt := forB ((defBody s_law).getD 1 (.Pass ⟨0, 0, 0, 0⟩))
/-- the law's frame -/
abbrev XL (P : Program) (w : World) (K : PySem.W.Frag) (mg : Str → Option Value) (base : Heap) (f : Addr) (cdv : Value) (A : Around) (outer : List Env) (s : Shared) (H : Hp) (E : XK) : Cx := (cxOf CX0 P w K mg base N_law "law" (defScope s_law) f cdv A outer s H E).nox
theorem lam_q {P : Program} {w : World} {K : PySem.W.Frag} {mg : Str → Option Value} {base : Heap} {f : Addr} {cdv : Value} {A : Around} {outer : List Env} {s : Shared} {H : Hp} {E : XK} : (XL P w K mg base f cdv A outer s H E).env.qual ++ "<lambda>" = lamQ := by
  show (("law" : Str) ++ ".<locals>.") ++ "<lambda>" = lamQ
  decide +kernel
end Kp

set_option Elab.async false
set_option linter.all false
set_option maxRecDepth 100000
set_option maxHeartbeats 4000000
namespace Kp
open PySem PySem.Spec PyProof.Rows L2 SlX
theorem ins2 {n : Nat} {xs : List Str} (h : Nms n xs) : OkIns (xs.take 2 ++ [qqZ]) := by
  refine ⟨by simp, by rw [List.length_append, List.length_take]; show _ + 1 < 64; omega, ?_, fun x hx => ?_⟩
  · rw [List.nodup_append]
    refine ⟨h.nd.sublist (List.take_sublist _ _), by simp, fun x hx y hy => ?_⟩
    rw [List.mem_singleton.mp hy]
    exact fun e => h.no (by rw [← e]; exact List.mem_of_mem_take hx)
  · rcases List.mem_append.mp hx with m | m
    · exact h.ok x (List.mem_of_mem_take m)
    · rw [List.mem_singleton.mp m]
      decide +kernel
theorem cut_nat (xs : List V) (n : Nat) : cutV xs none (some (n : Int)) = xs.take n := by
  unfold cutV
  rw [HT.sIx_none, HT.sIx_nat, List.drop_zero, Nat.sub_zero]
  rcases Nat.le_total n xs.length with h | h
  · rw [Nat.min_eq_left h]
  · rw [Nat.min_eq_right h, List.take_of_length_le (Nat.le_refl _), List.take_of_length_le h]
theorem paired_snoc {α β : Type} {F : α → β → Prop} : ∀ {l : List α} {m : List β} {a : α} {b : β}, Paired F l m → F a b → Paired F (l ++ [a]) (m ++ [b])
  | _, _, _, _, .nil, h => .cons h .nil
  | _, _, _, _, .cons r t, h => .cons r (paired_snoc t h)
theorem LmV.but {q : Str} {cells : List (Str × Addr)} {d : Lm} {H H' : Hp} {v : V} {P : Addr} (h : LmV q cells d H v) (t : LamX.TabS H P q) (e : But P H H') : LmV q cells d H' v := by
  obtain ⟨f, c', pm, ctv, h1, h2, h3⟩ := h
  obtain ⟨ps, hP, _⟩ := t
  refine ⟨f, c', pm, ctv, h1, e _ _ (fun z => ?_) h2, e _ _ (fun z => ?_) h3⟩
  · rw [z, hP] at h2; unfold LmO at h2; cases h2
  · rw [z, hP] at h3; unfold LamX.CodeO at h3; cases h3
theorem LmV.chg {q : Str} {cells : List (Str × Addr)} {d : Lm} {H : Hp} {v : V} {p : Addr} {xs : List V} {o : HO} (h : LmV q cells d H v) (hp : H p = some (.lst xs)) : LmV q cells d (upd H p o) v := by
  obtain ⟨f, c', pm, ctv, h1, h2, h3⟩ := h
  refine ⟨f, c', pm, ctv, h1, ?_, ?_⟩
  · rw [upd_ne fun z => ?_]
    · exact h2
    · rw [z, hp] at h2; unfold LmO at h2; cases h2
  · rw [upd_ne fun z => ?_]
    · exact h3
    · rw [z, hp] at h3; unfold LamX.CodeO at h3; cases h3
def rowX (ks : List Str) : Row := ks.map fun k => (k, ((0 : Int), ("x" : Str)))
theorem okX {ks : List Str} (h : OkIns ks) : OkRules ks [rowX ks] := by
  refine ⟨by simp, (by show 1 < 64; decide), fun r hr => ?_⟩
  rw [List.mem_singleton.mp hr]
  refine ⟨?_, fun p hp => ?_⟩
  · unfold rowX
    rw [List.map_map]
    exact (show (ks.map fun k => k).Perm ks by rw [List.map_id'])
  · obtain ⟨k, _, rfl⟩ := List.mem_map.mp hp
    exact ⟨Int.le_refl _, (by show (0 : Int) < 1; decide), (by show isName "x" = true; decide +kernel)⟩
section
variable {P : Program} {w : World} {K : PySem.W.Frag} {mg : Str → Option Value} {base : Heap} {C U KE f : Addr} {cdv : Value} {A : Around} {outer : List Env} {s0 : Shared} {H0 : Hp} {E0' : XK}
theorem lamS_law {scope : Scope} (h : LamX.lamSB (defScope s_law) scope = true) : LamX.LamS (XL P w K mg base f cdv A outer s0 H0 E0').env.scope scope := LamX.lamS_by h
def unD : PyData := .tuple [.str "unlike", .none]
theorem unD4 : plain (.list (List.replicate 4 unD)) = true ∧ SeqAt.shaped (.list (List.replicate 4 unD)) = true ∧ PyData.eqv (.list (List.replicate 4 unD)) (.list (List.replicate 4 unD)) = true := ⟨by decide +kernel, by decide +kernel, by decide +kernel⟩
theorem lmk_of {X : Cx} {k : Nat} {d : Lm} {t : XK → TE} {q : Str} {cells : List (Str × Addr)} {H : Hp} {v : V} (_ : LmV q cells d H v) (h : LmK X k d t) : LmK X k d t := h
def T7 (K : PySem.W.Frag) (C P : Addr) : TS := fun D σ H => ∃ (a b : Addr) (G : Hp) (d : Dat) (c2 c4 c5 c6 c7 c8 c9 c10 c11 c12 c13 c14 c18 c19 c20 : Option V),
  σ = [some (.ref a), some (.ref b), c2, some (.ref d.ai), c4, c5, c6, c7, c8, c9, c10, c11, c12, c13, c14, some d.v1, some d.v2, some (.ref d.ap), c18, c19, c20] ∧ Ls b P G H ∧ Dt K C G d ∧ Nxt a b P D
theorem tail7 {c Pt : Addr} (Z : Env92 P w K mg base C U KE) (hr : Room 8 (XL P w K mg base f cdv A outer s0 H0 E0').A) (TB : LamX.TabB base mg c Pt) (hcode : cdv = .ref c) : PSs (XL P w K mg base f cdv A outer s0 H0 E0') (turnB.drop 9) (T7 K C Pt) := by
  obtain ⟨fI, fd, MK, FI, BI⟩ := Z.mkr
  have bd : bootBuiltins "dict" = some (.type "dict") := bt_dict
  have T := Z.t
  subst hcode
  have key : ∃ t, PSs (XL P w K mg base f (.ref c) A outer s0 H0 E0') (turnB.drop 9) t ∧ ∀ D σ H, T7 K C Pt D σ H → t D σ H := by
    refine ⟨_, (pss_cons (ps_set (i := 18) sc_law.nd rfl (.inr rfl) (pe_make MK FI (hr.mono (by decide)) rfl Z.m.m.g BI .nil pass0 (pa_cons (pe_op op_cat (pe_slice sl_list (pv 3) po_none (po_some pe_int)) (pe_lst (pa_cons pe_str pa_nil))) (pa_cons (pe_lst (pa_cons (pe_callTy (dictP_k (K := K) rfl) (by rfl) T.b_dict bt_dict (pa_cons (pe_lc (own := [("_law_word", 20)]) (by rfl) sc_law.nd (pi_list (pe_op op_cat (pe_slice sl_list (pv 3) po_none (po_some pe_int)) (pe_lst (pa_cons pe_str pa_nil)))) (blkOk_by (N := N_law) (sc := defScope s_law) (by decide +kernel)) (fun _ _ _ _ _ => (pg_name (i := 20) sc_law.nd rfl (.inl rfl))) (fun _ _ _ _ _ => pts_nil) (fun _ _ _ _ _ => (pe_tup (pa_cons (pv 20) (pa_cons (pe_tup (pa_cons pe_int (pa_cons pe_str pa_nil))) pa_nil))))) pa_nil)) pa_nil)) pa_nil))))
      (pss_cons (ps_set (i := 14) sc_law.nd rfl (.inl rfl) (pe_lst (pa_cons (pe_lm lam_q TB rfl rfl (lamS_law (by decide +kernel))) pa_nil)))
      (pss_cons (ps_expr (pe_bm PySem.F.plainAttrs_list PySem.F.slot_list_append PySem.F.type_list_append mt_append (pv 14) (pa_cons (pe_lm lam_q TB rfl rfl (lamS_law (by decide +kernel))) pa_nil)))
      (pss_cons (ps_expr (pe_bm PySem.F.plainAttrs_list PySem.F.slot_list_append PySem.F.type_list_append mt_append (pv 14) (pa_cons (pe_lm lam_q TB rfl rfl (lamS_law (by decide +kernel))) pa_nil)))
      (pss_cons (ps_expr (pe_bm PySem.F.plainAttrs_list PySem.F.slot_list_append PySem.F.type_list_append mt_append (pv 14) (pa_cons (pe_lm lam_q TB rfl rfl (lamS_law (by decide +kernel))) pa_nil)))
      (pss_one (ps_if (pt_cmpR (op_neD hr.units) (pe_lcI (te := tOr (XL P w K mg base f (.ref c) A outer s0 H0 E0') 6 U 19) (own := [("_law_act", 19)]) (by rfl) sc_law.nd (pi_list (pv 14)) (blkOk_by (N := N_law) (sc := defScope s_law) (by decide +kernel)) (fun _ _ _ _ _ => (pg_name (i := 19) sc_law.nd rfl (.inl rfl))) (fun _ _ _ _ _ => pts_nil) (fun pins s0 σ H0 C' cl fp I hf => (pe_or (KE := KE) Z.oc T Z.ux hr I hf (by rfl) (by rfl) (.inl rfl)))) (pe_op op_rep (pe_lst (pa_cons (pe_tup (pa_cons pe_str (pa_cons pe_non pa_nil))) pa_nil)) pe_int) (nomark _))
        (pss_one (ps_ret pe_bl))
        pss_nil))))))), ?_⟩
    rintro D σ H ⟨a, b, G, d, c2, c4, c5, c6, c7, c8, c9, c10, c11, c12, c13, c14, c18, c19, c20, rfl, S, W, nx⟩
    obtain ⟨n, hn, n0, n4⟩ := W.n
    have i2 := ins2 hn
    have sl : 1000 ≤ sizeLine := by decide
    have l2 : (d.ins.take 2 ++ [qqZ]).length ≤ 3 := by rw [List.length_append, List.length_take]; show _ + 1 ≤ 3; omega
    have cu : cutV (d.ins.map V.str) none (some 2) ++ [V.str qqZ] = (d.ins.take 2 ++ [qqZ]).map V.str := by
      rw [show (2 : Int) = ((2 : Nat) : Int) from rfl, cut_nat, ← List.map_take, List.map_append]; rfl
    have cl : (cutV (d.ins.map V.str) none (some 2)).length ≤ 10 := by
      have := cutV_length (d.ins.map V.str) none (some 2)
      rw [List.length_map, hn.len] at this
      omega
    -- the inputs
    refine ⟨_, rfl, 2, rfl, d.ai, _, rfl, SqL.of (S.bs.fz _ _ W.hi), fun p1 np1 => ⟨by show 1 ≤ sizeLine; decide, fun p2 np2 => ⟨p1, p2, _, _, rfl, rfl, by rw [upd_ne (ne_of_none upd_same np2)]; exact upd_same, upd_same, (by show _ + 1 ≤ sizeLine; omega), fun p3 np3 => ?_⟩⟩⟩
    have S1 := ((S.junk np1).junk np2).new (o := .lst ((d.ins.take 2 ++ [qqZ]).map V.str)) np3
    rw [show cutV (d.ins.map V.str) none (some 2) ++ [V.str "qqqqqqqq"] = (d.ins.take 2 ++ [qqZ]).map V.str from cu]
    have u1 : Same G (upd G p3 (.lst ((d.ins.take 2 ++ [qqZ]).map V.str))) := same_new (none_of ((S.junk np1).junk np2).bs.fz np3)
    have g1 : upd G p3 (.lst ((d.ins.take 2 ++ [qqZ]).map V.str)) p3 = some (.lst ((d.ins.take 2 ++ [qqZ]).map V.str)) := upd_same
    generalize upd G p3 (.lst ((d.ins.take 2 ++ [qqZ]).map V.str)) = G1 at S1 u1 g1
    generalize upd (upd (upd H p1 _) p2 _) p3 _ = H1 at S1
    have W1 := W.up u1
    clear np1 np2 np3
    -- the rules
    refine ⟨_, rfl, 2, rfl, d.ai, _, rfl, SqL.of (S1.bs.fz _ _ W1.hi), fun p1 np1 => ⟨by show 1 ≤ sizeLine; decide, fun p2 np2 => ⟨p1, p2, _, _, rfl, rfl, by rw [upd_ne (ne_of_none upd_same np2)]; exact upd_same, upd_same, (by show _ + 1 ≤ sizeLine; omega), fun p4 np4 => ?_⟩⟩⟩
    have S2 := ((S1.junk np1).junk np2).new (o := .lst ((d.ins.take 2 ++ [qqZ]).map V.str)) np4
    rw [show cutV (d.ins.map V.str) none (some 2) ++ [V.str "qqqqqqqq"] = (d.ins.take 2 ++ [qqZ]).map V.str from cu]
    have u2 : Same G1 (upd G1 p4 (.lst ((d.ins.take 2 ++ [qqZ]).map V.str))) := same_new (none_of ((S1.junk np1).junk np2).bs.fz np4)
    have g2 : upd G1 p4 (.lst ((d.ins.take 2 ++ [qqZ]).map V.str)) p4 = some (.lst ((d.ins.take 2 ++ [qqZ]).map V.str)) := upd_same
    generalize upd G1 p4 (.lst ((d.ins.take 2 ++ [qqZ]).map V.str)) = G2 at S2 u2 g2
    generalize upd (upd (upd H1 p1 _) p2 _) p4 _ = H2 at S2
    have W2 := W1.up u2
    have g1 := u2 _ _ g1
    clear np1 np2 np4 W1 S1 S
    have qin : qqZ ∈ d.ins.take 2 ++ [qqZ] := by simp
    generalize d.ins.take 2 ++ [qqZ] = is2 at i2 l2 g1 g2 cu qin
    refine ⟨p4, rfl, ⟨_, SqL.of (S2.bs.fz _ _ g2)⟩, fun D1 nD => ?_⟩
    have S3 := S2.junk (o := .lst []) nD
    have gD := none_of S2.bs.fz nD
    have Db := S2.ne nD
    have DP : D1 ≠ Pt := fun e => S2.hP (by rw [← e]; exact nD)
    refine lc_list (xs := is2.map V.str) (fun i H' => ∃ (G' : Hp) (ps : List Addr) (kvs : List (L2.Key × V)), Ls b Pt G' H' ∧ Same G2 G' ∧ G' D1 = none ∧ H' D1 = some (.lst (ps.map V.ref)) ∧ Paired (fun p kv => SqT K G' p [kV kv.1, kv.2]) ps kvs ∧ KvR K G' kvs ((rowX is2).take i) ∧ ps.length = i)
      ⟨G2, [], [], S3, Same.refl _, gD, upd_same, .nil, ⟨rfl, .nil⟩, rfl⟩ (fun i H' _ ⟨G', _, _, S4, u4, _⟩ => SqL.of (S4.bs.fz _ _ (u4 _ _ g2))) ?_ ?_
    · rintro i x H' hx ⟨G', ps, kvs, S4, u4, gD', hD, pr, kr, pl⟩
      obtain ⟨wd, hw, rfl⟩ := at_map hx
      have il := (List.getElem?_eq_some_iff.mp hw).1
      refine ⟨rfl, _, rfl, by show 2 ≤ sizeLine; decide, fun t1 nt1 => ?_⟩
      have S5 := S4.new (o := .tup [.int 0, .str "x"]) nt1
      have u5 := same_new (o := .tup [.int 0, .str "x"]) (none_of S4.bs.fz nt1)
      have g5 : upd G' t1 (.tup [.int 0, .str "x"]) t1 = some (.tup [.int 0, .str "x"]) := upd_same
      have hD5 : upd H' t1 (.tup [.int 0, .str "x"]) D1 = some (.lst (ps.map V.ref)) := by rw [upd_ne (ne_of_none hD nt1)]; exact hD
      have gD5 : upd G' t1 (.tup [.int 0, .str "x"]) D1 = none := by rw [upd_ne (ne_of_none hD nt1)]; exact gD'
      generalize upd G' t1 (.tup [.int 0, .str "x"]) = G5 at S5 u5 g5 gD5
      generalize upd H' t1 (.tup [.int 0, .str "x"]) = H5 at S5 hD5
      refine ⟨by show 2 ≤ sizeLine; decide, fun t2 nt2 => ?_⟩
      have S6 := S5.new (o := .tup [.str wd, .ref t1]) nt2
      have u6 := same_new (o := .tup [.str wd, .ref t1]) (none_of S5.bs.fz nt2)
      have hD6 : upd H5 t2 (.tup [.str wd, .ref t1]) D1 = some (.lst (ps.map V.ref)) := by rw [upd_ne (ne_of_none hD5 nt2)]; exact hD5
      have gD6 : upd G5 t2 (.tup [.str wd, .ref t1]) D1 = none := by rw [upd_ne (ne_of_none hD5 nt2)]; exact gD5
      refine ⟨_, hD6, by rw [List.length_map]; omega, _, ps ++ [t2], kvs ++ [(Sum.inr wd, .ref t1)], S6.chg hD6 gD6 Db, (u4.trans u5).trans u6, gD6, by rw [upd_same, List.map_append]; rfl, ?_, ?_, by simp [pl]⟩
      · exact paired_snoc (paired_imp (fun p kv h => sqT_up (u5.trans u6) h) pr) (SqT.of upd_same)
      · have er : (rowX is2).take (i + 1) = (rowX is2).take i ++ [(wd, ((0 : Int), ("x" : Str)))] := by
          rw [List.take_succ]
          unfold rowX
          rw [List.getElem?_map, hw]
          rfl
        rw [er]
        refine ⟨by rw [List.map_append, List.map_append, kr.1]; rfl, ?_⟩
        rw [List.map_append, List.map_append]
        exact (kr.2.up (u5.trans u6)).append (.one (DD.step (p := ((0 : Int), ("x" : Str))) (SqT.of (u6 _ _ g5))))
    · rintro H' ⟨G', ps, kvs, S4, u4, gD', hD, pr, kr, pl⟩
      have rl : (rowX is2).length = (is2.map V.str).length := by unfold rowX; rw [List.length_map, List.length_map]
      rw [← rl, List.take_length] at kr
      have okr := (okX i2).ok (rowX is2) (List.mem_singleton.mpr rfl)
      refine ⟨D1, ps, kvs, rfl, SqL.of hD, paired_imp (fun p kv h => sqT_up S4.bs.fz h) pr, fun pd npd => ?_⟩
      rw [mergeK_new (kvs := []) (by simpa using row_nodup okr i2 kr.1), List.nil_append]
      have S5 := S4.new (o := .dK kvs) npd
      have u5 := same_new (o := .dK kvs) (none_of S4.bs.fz npd)
      have g5 : upd G' pd (.dK kvs) pd = some (.dK kvs) := upd_same
      have kr5 := kr.up u5
      generalize upd G' pd (.dK kvs) = G5 at S5 u5 g5 kr5
      generalize upd H' pd (.dK kvs) = H5 at S5
      refine ⟨by show 1 ≤ sizeLine; decide, fun p7 np7 => ?_⟩
      have S6 := S5.new (o := .lst [.ref pd]) np7
      have u6 := same_new (o := .lst [.ref pd]) (none_of S5.bs.fz np7)
      have g6 : upd G5 p7 (.lst [.ref pd]) p7 = some (.lst [.ref pd]) := upd_same
      have dr : DD K (upd G5 p7 (.lst [.ref pd])) (.ref p7) (rulesD [rowX is2]) := .lst (SqL.of g6) (.one ((kr5.up u6).dd (u6 _ _ g5)))
      generalize upd G5 p7 (.lst [.ref pd]) = G6 at S6 u6 g6 dr
      generalize upd H5 p7 (.lst [.ref pd]) = H6 at S6
      have u26 := (u4.trans u5).trans u6
      change ∀ (x dx : Addr), H6 x = none → H6 dx = none → dx ≠ x → _
      refine mk_step S6 (SqL.of (u26 _ _ g1)) i2 dr (okX i2) (fun G7 H7 x3 s3 S7 u7 _ M3 p3' so3 => ?_)
      have W7 := W2.up (u26.trans u7)
      clear S6 S5 S4 S3 S2 W2 kr kr5 pr dr
      -- the lambdas
      refine ⟨S7.tb, fun f1 H8 b8 t8 L1 => ⟨by show 1 ≤ sizeLine; decide, fun pa npa => ?_⟩⟩
      have S8 := S7.lam b8 t8
      have gpa := none_of S8.bs.fz npa
      have pab := S8.ne npa
      have paP : pa ≠ Pt := fun e => S8.hP (by rw [← e]; exact npa)
      have S9 := S8.junk (o := .lst [f1]) npa
      have k9 : upd H8 pa (.lst [f1]) pa = some (.lst [f1]) := upd_same
      have L1 := L1.up (same_new (o := .lst [f1]) npa)
      generalize upd H8 pa (.lst [f1]) = H9 at S9 k9 L1
      refine ⟨_, rfl, .inl ⟨rfl, _, SqL.of k9⟩, S9.tb, fun f2 H10 b10 t10 L2 => ⟨pa, _, _, rfl, rfl, b10 _ _ paP k9, by show 1 < sizeLine; decide, ?_⟩⟩
      have L1 := (L1.but S9.tb b10).chg (o := .lst ([f1] ++ [f2])) (b10 _ _ paP k9)
      have L2 := L2.chg (o := .lst ([f1] ++ [f2])) (b10 _ _ paP k9)
      have S10 := (S9.lam b10 t10).chg (o := .lst ([f1] ++ [f2])) (b10 _ _ paP k9) gpa pab
      have k10 : upd H10 pa (.lst ([f1] ++ [f2])) pa = some (.lst ([f1] ++ [f2])) := upd_same
      generalize upd H10 pa (.lst ([f1] ++ [f2])) = H10' at S10 k10 L1 L2
      refine ⟨_, rfl, .inl ⟨rfl, _, SqL.of k10⟩, S10.tb, fun f3 H11 b11 t11 L3 => ⟨pa, _, _, rfl, rfl, b11 _ _ paP k10, by show 2 < sizeLine; decide, ?_⟩⟩
      have L1 := (L1.but S10.tb b11).chg (o := .lst ([f1] ++ [f2] ++ [f3])) (b11 _ _ paP k10)
      have L2 := (L2.but S10.tb b11).chg (o := .lst ([f1] ++ [f2] ++ [f3])) (b11 _ _ paP k10)
      have L3 := L3.chg (o := .lst ([f1] ++ [f2] ++ [f3])) (b11 _ _ paP k10)
      have S11 := (S10.lam b11 t11).chg (o := .lst ([f1] ++ [f2] ++ [f3])) (b11 _ _ paP k10) gpa pab
      have k11 : upd H11 pa (.lst ([f1] ++ [f2] ++ [f3])) pa = some (.lst ([f1] ++ [f2] ++ [f3])) := upd_same
      generalize upd H11 pa (.lst ([f1] ++ [f2] ++ [f3])) = H11' at S11 k11 L1 L2 L3
      refine ⟨_, rfl, .inl ⟨rfl, _, SqL.of k11⟩, S11.tb, fun f4 H12 b12 t12 L4 => ⟨pa, _, _, rfl, rfl, b12 _ _ paP k11, by show 3 < sizeLine; decide, ?_⟩⟩
      have L1 := (L1.but S11.tb b12).chg (o := .lst ([f1] ++ [f2] ++ [f3] ++ [f4])) (b12 _ _ paP k11)
      have L2 := (L2.but S11.tb b12).chg (o := .lst ([f1] ++ [f2] ++ [f3] ++ [f4])) (b12 _ _ paP k11)
      have L3 := (L3.but S11.tb b12).chg (o := .lst ([f1] ++ [f2] ++ [f3] ++ [f4])) (b12 _ _ paP k11)
      have L4 := L4.chg (o := .lst ([f1] ++ [f2] ++ [f3] ++ [f4])) (b12 _ _ paP k11)
      have S12 := (S11.lam b12 t12).chg (o := .lst ([f1] ++ [f2] ++ [f3] ++ [f4])) (b12 _ _ paP k11) gpa pab
      have k12 : upd H12 pa (.lst ([f1] ++ [f2] ++ [f3] ++ [f4])) pa = some (.lst ([f1] ++ [f2] ++ [f3] ++ [f4])) := upd_same
      generalize upd H12 pa (.lst ([f1] ++ [f2] ++ [f3] ++ [f4])) = H13 at S12 k12 L1 L2 L3 L4
      clear S7 S8 S9 S10 S11 k9 k10 k11 b8 b10 b11 b12 t8 t10 t11 t12 npa
      -- the strange machine is another
      have sne : d.ss ≠ s3 := fun e => by
        have q1 : qqZ ∈ s3 := p3'.mem_iff.mpr qin
        rw [← e] at q1
        exact hn.no (W.p.mem_iff.mp q1)
      have tw := W7.two
      have o3 : OkIns s3 := i2.perm p3'.symm
      have r3 := ((okX i2).reord p3').perm p3'.symm
      refine ⟨_, rfl, pa, rfl, ⟨_, SqL.of k12⟩, fun D2 nD2 => ?_⟩
      refine lc_list (xs := [f1] ++ [f2] ++ [f3] ++ [f4]) (fun i H' => ∃ ts : List Addr, Same H13 H' ∧ H' D2 = some (.lst (ts.map V.ref)) ∧ ts.length = i ∧ ∀ t ∈ ts, H' t = some (.tup [.str "unlike", .non]))
        ⟨[], same_new nD2, upd_same, rfl, fun t ht => (by cases ht)⟩ (fun i H' _ ⟨ts, e1, _⟩ => SqL.of (e1 _ _ k12)) ?_ ?_
      · rintro i x H' hx ⟨ts, e1, hD2, tl, ht⟩
        have il : i < 4 := (List.getElem?_eq_some_iff.mp hx).1
        have go : ∀ (H2 : Hp), Same H' H2 → ∀ p, H2 p = none → ∃ acc, upd H2 p (.tup [.str "unlike", .non]) D2 = some (.lst acc) ∧ acc.length < sizeLine ∧ ∃ ts : List Addr, Same H13 (upd (upd H2 p (.tup [.str "unlike", .non])) D2 (.lst (acc ++ [V.ref p]))) ∧ (upd (upd H2 p (.tup [.str "unlike", .non])) D2 (.lst (acc ++ [V.ref p]))) D2 = some (.lst (ts.map V.ref)) ∧ ts.length = i + 1 ∧ ∀ t ∈ ts, (upd (upd H2 p (.tup [.str "unlike", .non])) D2 (.lst (acc ++ [V.ref p]))) t = some (.tup [.str "unlike", .non]) := fun H2 e2 p np => by
          have Dp : D2 ≠ p := ne_of_none (e2 _ _ hD2) np
          have e3 := e1.trans e2
          refine ⟨ts.map V.ref, by rw [upd_ne Dp]; exact e2 _ _ hD2, by rw [List.length_map]; omega, ts ++ [p], same_chg (same_chg e3 (Same.free e3 np)) nD2, by rw [upd_same, List.map_append]; rfl, by simp [tl], fun t m => ?_⟩
          rcases List.mem_append.mp m with m | m
          · have h1 := e2 _ _ (ht t m)
            have tD : t ≠ D2 := fun z => by
              have q := h1
              rw [z, e2 _ _ hD2] at q
              cases q
            rw [upd_ne tD, upd_ne (ne_of_none h1 np)]
            exact h1
          · rw [List.mem_singleton.mp m, upd_ne Dp.symm, upd_same]
        have s13 := S12.bs.fz.trans e1
        rcases (show i = 0 ∨ i = 1 ∨ i = 2 ∨ i = 3 by omega) with rfl | rfl | rfl | rfl
        · cases hx
          have K1 := lmk_of (X := XL P w K mg base f (.ref c) A outer s0 H0 E0') (k := 6) (t := fun E => tCall (spPairs K C U) [] E (tCons (tVar 15) (tCons (tVar 18) tNil))) L1 ⟨lamS_law (by decide +kernel), fun _ _ _ _ _ => rfl, fun A outer s H E f c' hr' => pe_cal (E := E) Z.cp (hr'.mono (by decide)) (passes_call (takes_of rfl rfl rfl rfl) (fun _ _ _ _ h => h)) (pa_cons (pv 15) (pa_cons (pv 18) pa_nil))⟩
          refine ⟨rfl, _, _, _, rfl, L1.up e1, K1, ?_⟩
          refine ⟨_, rfl, _, rfl, d.v1, .ref x3, G7, d.ss, s3, _, _, rfl, s13, ⟨W7.M1, M3, tw.i1, o3, tw.o1, r3⟩, fun e => absurd e sne, fun _ H2 e2 => ⟨rfl, rfl, fun p np => go H2 e2 p np⟩⟩
        · cases hx
          have K1 := lmk_of (X := XL P w K mg base f (.ref c) A outer s0 H0 E0') (k := 6) (t := fun E => tCall (spArePairs K C U) [] E (tCons (tVar 18) (tCons (tVar 15) (tCons (tC .non) tNil)))) L2 ⟨lamS_law (by decide +kernel), fun _ _ _ _ _ => rfl, fun A outer s H E f c' hr' => pe_cal (E := E) Z.ap (hr'.mono (by decide)) (passes_call (takes_of rfl rfl rfl rfl) (fun _ _ _ _ h => h)) (pa_cons (pv 18) (pa_cons (pv 15) (pa_cons pe_non pa_nil)))⟩
          refine ⟨rfl, _, _, _, rfl, L2.up e1, K1, ?_⟩
          refine ⟨_, rfl, _, rfl, .ref x3, d.v1, .non, G7, s3, d.ss, _, _, rfl, s13, ⟨M3, W7.M1, o3, tw.i1, r3, tw.o1⟩, .inl ⟨.none, .non, fine_not rfl, fun e => absurd e.symm sne⟩, fun _ H2 e2 => ⟨rfl, rfl, fun p np => go H2 e2 p np⟩⟩
        · cases hx
          have K1 := lmk_of (X := XL P w K mg base f (.ref c) A outer s0 H0 E0') (k := 6) (t := fun E => tCall (spArePairs K C U) [] E (tCons (tVar 15) (tCons (tVar 18) (tCons (tVar 17) tNil)))) L3 ⟨lamS_law (by decide +kernel), fun _ _ _ _ _ => rfl, fun A outer s H E f c' hr' => pe_cal (E := E) Z.ap (hr'.mono (by decide)) (passes_call (takes_of rfl rfl rfl rfl) (fun _ _ _ _ h => h)) (pa_cons (pv 15) (pa_cons (pv 18) (pa_cons (pv 17) pa_nil)))⟩
          refine ⟨rfl, _, _, _, rfl, L3.up e1, K1, ?_⟩
          refine ⟨_, rfl, _, rfl, _, rfl, d.v1, .ref x3, .ref d.ap, G7, d.ss, s3, _, _, rfl, s13, ⟨W7.M1, M3, tw.i1, o3, tw.o1, r3⟩, .inl ⟨_, W7.dd, W7.fine, fun e => absurd e sne⟩, fun _ H2 e2 => ⟨rfl, rfl, fun p np => go H2 e2 p np⟩⟩
        · cases hx
          have K1 := lmk_of (X := XL P w K mg base f (.ref c) A outer s0 H0 E0') (k := 6) (t := fun E => tCall (spPairs K C U) [] E (tCons (tVar 18) (tCons (tVar 16) tNil))) L4 ⟨lamS_law (by decide +kernel), fun _ _ _ _ _ => rfl, fun A outer s H E f c' hr' => pe_cal (E := E) Z.cp (hr'.mono (by decide)) (passes_call (takes_of rfl rfl rfl rfl) (fun _ _ _ _ h => h)) (pa_cons (pv 18) (pa_cons (pv 16) pa_nil))⟩
          refine ⟨rfl, _, _, _, rfl, L4.up e1, K1, ?_⟩
          refine ⟨_, rfl, _, rfl, .ref x3, d.v2, G7, s3, d.ss, _, _, rfl, s13, ⟨M3, W7.M2, o3, tw.i2, r3, tw.o2⟩, fun e => absurd e sne.symm, fun _ H2 e2 => ⟨rfl, rfl, fun p np => go H2 e2 p np⟩⟩
      · rintro H' ⟨ts, e1, hD2, tl, ht⟩
        refine ⟨by show 2 ≤ sizeLine; decide, fun t nt => ⟨by show 1 ≤ sizeLine; decide, fun l nl => ⟨l, 4, _, rfl, rfl, upd_same, by decide, by decide, by show 1 * 4 ≤ sizeLine; decide, fun r nr => ?_⟩⟩⟩
        rw [show ((4 : Int).toNat) = 4 from rfl, flat_rep]
        have hT : upd H' t (.tup [.str "unlike", .non]) t = some (.tup [.str "unlike", .non]) := upd_same
        have e2 : Same H' (upd H' t (.tup [.str "unlike", .non])) := same_new nt
        generalize upd H' t (.tup [.str "unlike", .non]) = H2 at hT e2 nl nr
        have e3 : Same H2 (upd (upd H2 l (.lst [V.ref t])) r (.lst (List.replicate 4 (V.ref t)))) := (same_new nl).trans (same_new nr)
        have hR : upd (upd H2 l (.lst [V.ref t])) r (.lst (List.replicate 4 (V.ref t))) r = some (.lst (List.replicate 4 (V.ref t))) := upd_same
        generalize upd (upd H2 l (.lst [V.ref t])) r (.lst (List.replicate 4 (V.ref t))) = H3 at e3 hR
        have tU : ∀ {x : Addr}, H3 x = some (.tup [.str "unlike", .non]) → DD K H3 (.ref x) unD := fun h => .tup (SqT.of h) (.cons (.str _) (.cons .non .nil))
        have left : DD K H3 (.ref D2) (.list (List.replicate 4 unD)) := by
          refine .lst (SqL.of (e3 _ _ (e2 _ _ hD2))) (DDs.of (by rw [List.length_map, List.length_replicate]; exact tl) fun i v dd h1 h2 => ?_)
          rw [List.eq_of_mem_replicate (List.mem_of_getElem? h2)]
          obtain ⟨tt, htt, rfl⟩ := at_map h1
          exact tU (e3 _ _ (e2 _ _ (ht tt (List.mem_of_getElem? htt))))
        have right : DD K H3 (.ref r) (.list (List.replicate 4 unD)) := .lst (SqL.of hR) (.rep (tU (e3 _ _ hT)) 4)
        refine ⟨_, _, left.dp unD4.1, right.dp unD4.1, unD4.2.1, unD4.2.1, false, by rw [unD4.2.2]; rfl, iteF ?_⟩
        exact nx _ _ _ _ _ _ _ _ _ _ _ _ _ _ _ _ _ _ _ _ _ (S12.pure ((e1.trans e2).trans e3))
  obtain ⟨t, ht, hw⟩ := key
  exact ⟨fun pins s σ H D I h => ht.run pins s σ H D I (hw D σ H h)⟩
end
end Kp

set_option Elab.async false
set_option linter.all false
set_option maxRecDepth 100000
set_option maxHeartbeats 4000000
namespace Kp
open PySem PySem.Spec PyProof.Rows L2 SlX
theorem reach_self {ss : List Str} {r : List Row} {p : Pr} (h : Reach ss r r p) : p.1 = p.2 := by
  induction h with
  | start => rfl
  | step _ _ ih => unfold nx; rw [ih]
theorem allAg_self (ss : List Str) (r : List Row) : AllAg ss r r := fun p h k _ => by
  unfold agree
  rw [reach_self h]
section
variable {P : Program} {w : World} {K : PySem.W.Frag} {mg : Str → Option Value} {base : Heap} {C U KE f : Addr} {cdv : Value} {A : Around} {outer : List Env} {s0 : Shared} {H0 : Hp} {E0' : XK}
/-- nothing is raised -/
abbrev noE : XK := fun _ _ _ => False
theorem passN {X : Cx} : Passes (L2.CX X.prog X.w) X noE := passes_call takes0 fun _ _ _ _ h => h
theorem tail6 {c Pt : Addr} (Z : Env92 P w K mg base C U KE) (hr : Room 8 (XL P w K mg base f cdv A outer s0 H0 E0').A) (TB : LamX.TabB base mg c Pt) (hcode : cdv = .ref c) : PSs (XL P w K mg base f cdv A outer s0 H0 E0') (turnB.drop 8) (T7 K C Pt) := by
  have T := Z.t
  have key : ∃ t, PSs (XL P w K mg base f cdv A outer s0 H0 E0') (turnB.drop 8) t ∧ ∀ D σ H, T7 K C Pt D σ H → t D σ H := by
    refine ⟨_, (pss_cons (ps_if (PW.pt (pw_or (pt_cmpR op_notBl (pe_cal (E := noE) Z.ap (hr.mono (by decide)) passN (pa_cons (pv 15) (pa_cons (pv 16) (pa_cons (pv 15) pa_nil)))) pe_bl (nomark _)) (pw_or1 (pt_cmpR op_isN (pe_cal (E := noE) Z.cp (hr.mono (by decide)) passN (pa_cons (pv 15) (pa_cons (pv 15) pa_nil))) pe_non (nomark _)))))
        (pss_one (ps_ret pe_bl))
        pss_nil)
      (tail7 (C := C) (Pt := Pt) Z hr TB hcode)), ?_⟩
    rintro D σ H ⟨a, b, G, d, c2, c4, c5, c6, c7, c8, c9, c10, c11, c12, c13, c14, c18, c19, c20, rfl, S, W, nx⟩
    have tw := W.two
    refine ⟨_, rfl, _, rfl, _, rfl, d.v1, d.v2, d.v1, G, d.ss, d.ss, _, _, rfl, S.bs.fz, tw, .inr ⟨_, _, W.M1, fun _ H1 e1 => ?_⟩, fun ne => absurd rfl ne⟩
    refine ⟨false, false, rfl, rfl, false, rfl, iteF ?_⟩
    have S1 := S.pure e1
    refine ⟨_, rfl, _, rfl, d.v1, d.v1, G, d.ss, d.ss, _, _, rfl, S1.bs.fz, ⟨W.M1, W.M1, tw.i1, tw.i1, tw.o1, tw.o1⟩, fun _ => ⟨fun _ G2 H2 v g ⟨p, vs, ms, ev, _⟩ => ?_, fun no => absurd (allAg_self _ _) no⟩, fun ne => absurd rfl ne⟩
    subst ev
    refine ⟨rfl, false, rfl, iteF ?_⟩
    exact ⟨a, b, G2, d, _, _, _, _, _, _, _, _, _, _, _, _, _, _, _, rfl, S1.call0 g, W.up g.sub, nx⟩
  obtain ⟨t, ht, hw⟩ := key
  exact ⟨fun pins s σ H D I h => ht.run pins s σ H D I (hw D σ H h)⟩
end
end Kp

set_option Elab.async false
set_option linter.all false
set_option maxRecDepth 100000
set_option maxHeartbeats 4000000
namespace Kp
open PySem PySem.Spec PyProof.Rows L2 SlX
theorem nx_reord {ins ss : List Str} {r1 r2 : List Row} (o1 : OkRules ins r1) (o2 : OkRules ins r2) {p : Pr} (h : inR r1.length r2.length p) {k : Str} (hk : k ∈ ss) : nx (r1.map (reord ss)) (r2.map (reord ss)) p k = nx r1 r2 p k ∧ (agree (r1.map (reord ss)) (r2.map (reord ss)) p k ↔ agree r1 r2 p k) := by
  have a := stp_reord o1 h.1.1 h.1.2 hk
  have b := stp_reord o2 h.2.1 h.2.2 hk
  unfold nx agree
  rw [a, b]
  exact ⟨rfl, Iff.rfl⟩
theorem closed_reord {ins ss : List Str} {r1 r2 : List Row} (o1 : OkRules ins r1) (o2 : OkRules ins r2) (p : ss.Perm ins) {d : PyData} : Closed ss (r1.map (reord ss)) (r2.map (reord ss)) d ↔ Closed ins r1 r2 d := by
  unfold Closed
  rw [List.length_map, List.length_map]
  constructor
  · rintro ⟨ms, e, h1, h2, h3, h4⟩
    refine ⟨ms, e, h1, h2, h3, fun q hq k hk => ?_⟩
    have hk' := p.mem_iff.mpr hk
    have z := nx_reord o1 o2 (h1 q hq) hk'
    have y := h4 q hq k hk'
    rw [z.1] at y
    exact ⟨z.2.mp y.1, y.2⟩
  · rintro ⟨ms, e, h1, h2, h3, h4⟩
    refine ⟨ms, e, h1, h2, h3, fun q hq k hk => ?_⟩
    have z := nx_reord o1 o2 (h1 q hq) hk
    have y := h4 q hq k (p.mem_iff.mp hk)
    rw [z.1]
    exact ⟨z.2.mpr y.1, y.2⟩
theorem reach_reord {ins ss : List Str} {r1 r2 : List Row} (o1 : OkRules ins r1) (o2 : OkRules ins r2) (p : ss.Perm ins) (q : Pr) : Reach ss (r1.map (reord ss)) (r2.map (reord ss)) q ↔ Reach ins r1 r2 q := by
  constructor
  · intro h
    induction h with
    | start => exact .start
    | step h hk ih =>
      rw [(nx_reord o1 o2 (ih.inR o1 o2) hk).1]
      exact .step ih (p.mem_iff.mp hk)
  · intro h
    have h0 := h
    induction h with
    | start => exact .start
    | step h hk ih =>
      have hk' := p.mem_iff.mpr hk
      rw [← (nx_reord o1 o2 (h.inR o1 o2) hk').1]
      exact .step (ih h) hk'
theorem allAg_reord {ins ss : List Str} {r1 r2 : List Row} (o1 : OkRules ins r1) (o2 : OkRules ins r2) (p : ss.Perm ins) : AllAg ss (r1.map (reord ss)) (r2.map (reord ss)) ↔ AllAg ins r1 r2 := by
  unfold AllAg
  constructor
  · intro h q hq k hk
    have hk' := p.mem_iff.mpr hk
    exact (nx_reord o1 o2 (hq.inR o1 o2) hk').2.mp (h q ((reach_reord o1 o2 p q).mpr hq) k hk')
  · intro h q hq k hk
    have hq' := (reach_reord o1 o2 p q).mp hq
    exact (nx_reord o1 o2 (hq'.inR o1 o2) hk).2.mpr (h q hq' k (p.mem_iff.mp hk))
end Kp
namespace Kp
open PySem PySem.Spec PyProof.Rows L2 SlX
theorem bt_repr : bootBuiltins "repr" = some (.builtin "repr") := by decide +kernel
section
variable {P : Program} {w : World} {K : PySem.W.Frag} {mg : Str → Option Value} {base : Heap} {C U KE f : Addr} {cdv : Value} {A : Around} {outer : List Env} {s0 : Shared} {H0 : Hp} {E0' : XK}
def T5 (K : PySem.W.Frag) (C P : Addr) : TS := fun D σ H => ∃ (a b : Addr) (G : Hp) (d : Dat) (c2 c4 c7 c8 c9 c10 c11 c12 c13 c14 c18 c19 c20 : Option V),
  σ = [some (.ref a), some (.ref b), c2, some (.ref d.ai), c4, some (.ref d.a1), some (.ref d.a2), c7, c8, c9, c10, c11, c12, c13, c14, some d.v1, some d.v2, some (.ref d.ap), c18, c19, c20] ∧ Ls b P G H ∧ Dt K C G d ∧ Nxt a b P D
/-- alike of two truths -/
theorem alike_b {K : PySem.W.Frag} {H : Hp} {b : Bool} {Q : VK} {E : XK} (h : Q (.bl true) H) : spAlike K [.bl b, .bl b] H Q E :=
  ⟨_, _, .bool b, rfl, .bl b, .bl b, rfl, (sm_bool b).sh, Nat.le_trans (sm_bool b).dp (by decide), Sm.fits ((sm_bool b).mono (Nat.le_refl _) (by decide)), h⟩
theorem tail5 {c Pt : Addr} (Z : Env92 P w K mg base C U KE) (hr : Room 8 (XL P w K mg base f cdv A outer s0 H0 E0').A) (gA : (XL P w K mg base f cdv A outer s0 H0 E0').A.guards = some []) (TB : LamX.TabB base mg c Pt) (hcode : cdv = .ref c) : PSs (XL P w K mg base f cdv A outer s0 H0 E0') (turnB.drop 7) (T5 K C Pt) := by
  have T := Z.t
  have key : ∃ t, PSs (XL P w K mg base f cdv A outer s0 H0 E0') (turnB.drop 7) t ∧ ∀ D σ H, T5 K C Pt D σ H → t D σ H := by
    refine ⟨_, (pss_cons (ps_for PassesOwn.never rfl (pi_range1 (by rfl) T.b_range (pa_cons pe_int pa_nil)) (pg_name (i := 10) sc_law.nd rfl (.inl rfl))
        (pss_cons (ps_set (i := 11) sc_law.nd rfl (.inl rfl) (pe_cal Z.cb (hr.mono (by decide)) pass0 (pa_cons (pv 1) (pa_cons (pv 5) (pa_cons (pv 6) (pa_cons (pv 17) pa_nil))))))
        (pss_cons (ps_par (i := 12) (j := 13) (by rfl) sc_law.nd rfl rfl (by decide) rfl rfl (pa_cons (pe_callB (call_repr gA hr.units Z.sb) (by rfl) T.b_repr bt_repr (pa_cons (pv 11) pa_nil)) (pa_cons (pe_cal Z.cc (hr.mono (by decide)) pass0 (pa_cons (pv 5) (pa_cons (pv 6) (pa_cons (pv 11) pa_nil)))) pa_nil)) (by rfl))
        (pss_one (ps_for PassesOwn.never rfl (pi_range1 (by rfl) T.b_range (pa_cons pe_int pa_nil)) (pg_name (i := 8) sc_law.nd rfl (.inl rfl))
          (pss_one (ps_if (PW.pt (pw_or (pt_not (pt_val (pe_calG gA Z.ca (hr.mono (by decide)) pass0 (pa_cons (pe_cal (E := noE) Z.ap (hr.mono (by decide)) passN (pa_cons (pv 15) (pa_cons (pv 16) (pa_cons (pv 11) pa_nil)))) (pa_cons (pv 13) pa_nil))))) (pw_or1 (pt_cmpR op_ne (pe_callB (call_repr gA hr.units Z.sb) (by rfl) T.b_repr bt_repr (pa_cons (pv 11) pa_nil)) (pv 12) (nomark _)))))
            (pss_one (ps_ret pe_bl))
            pss_nil)))))))
      (tail6 (C := C) (Pt := Pt) Z hr TB hcode)), ?_⟩
    rintro D σ H ⟨a, b, G, d, c2, c4, c7, c8, c9, c10, c11, c12, c13, c14, c18, c19, c20, rfl, S, W, nx⟩
    have l1 := W.l1
    have l2 := W.l2
    have lm := W.few
    have lmul := Nat.mul_le_mul l1 l2
    refine ⟨6, rfl, by decide, by decide, ?_⟩
    refine for_range (lo := 0) (n := 6) (fun i σ' H' => ∃ (G : Hp) (c8 c10 c11 c12 c13 : Option V), σ' = [some (.ref a), some (.ref b), c2, some (.ref d.ai), c4, some (.ref d.a1), some (.ref d.a2), c7, c8, c9, c10, c11, c12, c13, c14, some d.v1, some d.v2, some (.ref d.ap), c18, c19, c20] ∧ Ls b Pt G H' ∧ Dt K C G d)
      ⟨G, c8, c10, c11, c12, c13, rfl, S, W⟩ ?_ ?_
    · clear S W
      rintro i σ' H' hi ⟨G, c8, c10, c11, c12, c13, rfl, S, W⟩
      have ne : d.ms ≠ [] := fun e => by
        have := (W.mem (0, 0)).mpr .start
        rw [e] at this
        cases this
      refine ⟨_, rfl, _, rfl, _, rfl, _, rfl, b, d.a1, d.a2, d.ap, G, d.x1, d.x2, d.xs, d.ins, d.r1, d.r2, d.ms, rfl, S.bs, W.R1, W.R2, W.oi, SqL.of W.hs, W.tu.dds, W.inr, ne, by omega, fun G2 H2 v g bag ⟨dt, dv, od⟩ => ?_⟩
      have S2 := S.callB g bag
      have W2 := W.up g.sub
      have dH : DD K H2 v dt := dv.up S2.bs.fz
      have fit := od.sm.fits
      refine ⟨_, rfl, v, dt, rfl, dH, od.sm.sh, Nat.le_trans od.sm.dp (by decide), fit, ?_⟩
      refine ⟨_, rfl, _, rfl, _, rfl, d.a1, d.a2, v, dt, G2, d.x1, d.x2, d.ins, d.r1, d.r2, rfl, S2.bs.fz, W2.R1, W2.R2, W2.oi, dv, od.fi, fun H3 bb e3 hbb => ?_⟩
      have S3 := S2.pure e3
      refine ⟨_, _, rfl, ?_⟩
      refine ⟨2, rfl, by decide, by decide, ?_⟩
      refine for_range (lo := 0) (n := 2) (fun j σ' H' => ∃ (c8 : Option V), σ' = [some (.ref a), some (.ref b), c2, some (.ref d.ai), c4, some (.ref d.a1), some (.ref d.a2), c7, c8, c9, some (.int (0 + i)), some v, some (.str dt.shown), some (.bl bb), c14, some d.v1, some d.v2, some (.ref d.ap), c18, c19, c20] ∧ Ls b Pt G2 H')
        ⟨c8, rfl, S3⟩ ?_ ?_
      · clear S3
        rintro j σ' H4 hj ⟨c8, rfl, S4⟩
        refine ⟨_, rfl, _, rfl, _, rfl, d.v1, d.v2, v, G2, d.ss, d.ss, _, _, rfl, S4.bs.fz, W2.two, .inl ⟨dt, dv, od.fi, fun _ H5 b5 e5 hb5 => ?_⟩, fun ne => absurd rfl ne⟩
        have S5 := S4.pure e5
        have eb : b5 = bb := by
          have z := hb5.trans ((closed_reord W2.R1.ok W2.R2.ok W2.p).trans hbb.symm)
          cases b5 <;> cases bb <;> first | rfl | exact absurd (z.mp rfl) (by decide) | exact absurd (z.mpr rfl) (by decide)
        subst eb
        refine ⟨_, rfl, .bl b5, .bl b5, .bool b5, rfl, .bl b5, .bl b5, rfl, (sm_bool b5).sh, Nat.le_trans (sm_bool b5).dp (by decide), Sm.fits ((sm_bool b5).mono (Nat.le_refl _) (by decide)), _, rfl, iteF ?_⟩
        refine ⟨_, rfl, v, dt, rfl, dv.up S5.bs.fz, od.sm.sh, Nat.le_trans od.sm.dp (by decide), fit, _, rfl, rfl, _, rfl, ?_⟩
        rw [decide_eq_true rfl]
        exact iteF ⟨_, rfl, S5⟩
      · rintro σ' H4 ⟨c8, rfl, S4⟩
        exact ⟨G2, _, _, _, _, _, rfl, S4, W2⟩
    · rintro σ' H' ⟨G, c8, c10, c11, c12, c13, rfl, S, W⟩
      exact ⟨a, b, G, d, _, _, _, _, _, _, _, _, _, _, _, _, _, _, _, rfl, S, W, nx⟩
  obtain ⟨t, ht, hw⟩ := key
  exact ⟨fun pins s σ H D I h => ht.run pins s σ H D I (hw D σ H h)⟩
end
end Kp

set_option Elab.async false
set_option linter.all false
set_option maxRecDepth 100000
set_option maxHeartbeats 4000000
namespace Kp
open PySem PySem.Spec PyProof.Rows L2 SlX
theorem noT_pairs (ms : List Pr) : noT (.list (ms.map pairD)) = true := by
  show noTs (ms.map pairD) = true
  induction ms with
  | nil => rfl
  | cons p ms ih => exact ih
section
variable {P : Program} {w : World} {K : PySem.W.Frag} {mg : Str → Option Value} {base : Heap} {C U KE f : Addr} {cdv : Value} {A : Around} {outer : List Env} {s0 : Shared} {H0 : Hp} {E0' : XK}
/-- what is due -/
def Due (d : Dat) (v : V) : Prop := (AllAg d.ins d.r1 d.r2 ∧ v = .ref d.ap) ∨ (¬ AllAg d.ins d.r1 d.r2 ∧ v = .non)
def T4 (K : PySem.W.Frag) (C P : Addr) : TS := fun D σ H => ∃ (a b : Addr) (G : Hp) (d : Dat) (dv : V) (c2 c4 c8 c9 c10 c11 c12 c13 c14 c18 c19 c20 : Option V),
  σ = [some (.ref a), some (.ref b), c2, some (.ref d.ai), c4, some (.ref d.a1), some (.ref d.a2), some dv, c8, c9, c10, c11, c12, c13, c14, some d.v1, some d.v2, some (.ref d.ap), c18, c19, c20] ∧ Ls b P G H ∧ Dt K C G d ∧ Due d dv ∧ Nxt a b P D
theorem tail4 {c Pt : Addr} (Z : Env92 P w K mg base C U KE) (hr : Room 8 (XL P w K mg base f cdv A outer s0 H0 E0').A) (gA : (XL P w K mg base f cdv A outer s0 H0 E0').A.guards = some []) (TB : LamX.TabB base mg c Pt) (hcode : cdv = .ref c) : PSs (XL P w K mg base f cdv A outer s0 H0 E0') (turnB.drop 6) (T4 K C Pt) := by
  have T := Z.t
  have key : ∃ t, PSs (XL P w K mg base f cdv A outer s0 H0 E0') (turnB.drop 6) t ∧ ∀ D σ H, T4 K C Pt D σ H → t D σ H := by
    refine ⟨_, (pss_cons (ps_for PassesOwn.never rfl (pi_range1 (by rfl) T.b_range (pa_cons pe_int pa_nil)) (pg_name (i := 8) sc_law.nd rfl (.inl rfl))
        (pss_cons (ps_set (i := 9) sc_law.nd rfl (.inl rfl) (pe_cal (E := noE) Z.cp (hr.mono (by decide)) passN (pa_cons (pv 15) (pa_cons (pv 16) pa_nil))))
        (pss_cons (ps_if (PW.pt (pw_or (pt_not (pt_val (pe_calG gA Z.ca (hr.mono (by decide)) pass0 (pa_cons (pv 9) (pa_cons (pv 7) pa_nil))))) (pw_or1 (pt_not (pt_val (pe_calG gA Z.ca (hr.mono (by decide)) pass0 (pa_cons (pe_cal (E := noE) Z.cs (hr.mono (by decide)) passN (pa_cons (pv 15) (pa_cons (pv 16) pa_nil))) (pa_cons (pe_cmpR op_notN (pv 7) pe_non (nomark _)) pa_nil))))))))
          (pss_one (ps_ret pe_bl))
          pss_nil)
        (pss_one (ps_if (pt_cmpR op_notN (pv 9) pe_non (nomark _))
          (pss_one (ps_expr (pe_bm PySem.F.plainAttrs_list PySem.F.slot_list_append PySem.F.type_list_append mt_append (pv 9) (pa_cons pe_non pa_nil))))
          pss_nil)))))
      (tail5 (C := C) (Pt := Pt) Z hr gA TB hcode)), ?_⟩
    rintro D σ H ⟨a, b, G, d, dv, c2, c4, c8, c9, c10, c11, c12, c13, c14, c18, c19, c20, rfl, S, W, du, nx⟩
    have sl : 1000 ≤ sizeLine := by decide
    refine ⟨2, rfl, by decide, by decide, ?_⟩
    refine for_range (lo := 0) (n := 2) (fun i σ' H' => ∃ (G : Hp) (c8 c9 : Option V), σ' = [some (.ref a), some (.ref b), c2, some (.ref d.ai), c4, some (.ref d.a1), some (.ref d.a2), some dv, c8, c9, c10, c11, c12, c13, c14, some d.v1, some d.v2, some (.ref d.ap), c18, c19, c20] ∧ Ls b Pt G H' ∧ Dt K C G d)
      ⟨G, c8, c9, rfl, S, W⟩ ?_ ?_
    · clear S W
      rintro i σ' H' hi ⟨G, c8, c9, rfl, S, W⟩
      have tw := W.two
      have lm := W.few
      have sm := sm_pairs (l := 30) W.inr (by have := W.l1; omega) (by have := W.l2; omega) lm
      have fit := (sm.mono (Nat.le_refl _) (by decide : 30 * 19 ≤ 200000)).fits
      have dp := Nat.le_trans sm.dp (by decide : 2 ≤ 60)
      have all := allAg_reord W.R1.ok W.R2.ok W.p
      refine ⟨_, rfl, _, rfl, d.v1, d.v2, G, d.ss, d.ss, _, _, rfl, S.bs.fz, tw, fun _ => ⟨fun ag G2 H2 v g ⟨p, vs, ms, ev, np, gp, hp, tu, nd, le, mem⟩ => ?_, fun no H2 e2 => ?_⟩, fun ne => absurd rfl ne⟩
      · subst ev
        have ag' := all.mp ag
        rcases du with ⟨_, rfl⟩ | ⟨no, _⟩
        · have S2 := S.call0 g
          have W2 := W.up g.sub
          have em : ms = d.ms := by
            refine sortP_eq le W.le ?_
            refine (List.perm_ext_iff_of_nodup nd W.nd).mpr fun q => ?_
            rw [mem q, W.mem q]
            exact reach_reord W.R1.ok W.R2.ok W.p q
          subst em
          refine ⟨_, rfl, _, rfl, _, _, _, rfl, .lst (SqL.of hp) (tu.dds.up S2.bs.fz), W2.dd.up S2.bs.fz, noT_pairs _, sm.sh, dp, fit, _, rfl, iteF ?_⟩
          refine ⟨_, rfl, _, rfl, d.v1, d.v2, G2, d.ss, d.ss, _, _, rfl, S2.bs.fz, W2.two, fun _ H3 b3 e3 hb3 => ?_, fun ne => absurd rfl ne⟩
          have S3 := S2.pure e3
          obtain rfl := hb3.mpr ag
          refine ⟨_, rfl, rfl, .bl true, .bl true, .bool true, rfl, .bl true, .bl true, rfl, (sm_bool true).sh, Nat.le_trans (sm_bool true).dp (by decide), Sm.fits ((sm_bool true).mono (Nat.le_refl _) (by decide)), _, rfl, iteF ?_⟩
          refine ⟨_, rfl, rfl, true, rfl, iteT ?_⟩
          have hp3 := e3 _ _ hp
          refine ⟨_, rfl, .inl ⟨rfl, _, SqL.of hp3⟩, p, vs, _, rfl, rfl, hp3, ?_, ?_⟩
          · rw [tu.1]; omega
          · exact ⟨G2, _, _, rfl, S3.chg hp3 gp (S.ne np), W2⟩
        · exact absurd ag' no
      · have S2 := S.pure e2
        have no' : ¬ AllAg d.ins d.r1 d.r2 := fun h => no (all.mpr h)
        rcases du with ⟨yes, _⟩ | ⟨_, rfl⟩
        · exact absurd yes no'
        · refine ⟨_, rfl, _, rfl, .non, .non, .none, rfl, .non, .non, rfl, sm_none.sh, Nat.le_trans sm_none.dp (by decide), Sm.fits (sm_none.mono (Nat.le_refl _) (by decide)), _, rfl, iteF ?_⟩
          refine ⟨_, rfl, _, rfl, d.v1, d.v2, G, d.ss, d.ss, _, _, rfl, S2.bs.fz, W.two, fun _ H3 b3 e3 hb3 => ?_, fun ne => absurd rfl ne⟩
          have S3 := S2.pure e3
          obtain rfl : b3 = false := by
            cases b3 with
            | false => rfl
            | true => exact absurd (hb3.mp rfl) no
          refine ⟨_, rfl, rfl, .bl false, .bl false, .bool false, rfl, .bl false, .bl false, rfl, (sm_bool false).sh, Nat.le_trans (sm_bool false).dp (by decide), Sm.fits ((sm_bool false).mono (Nat.le_refl _) (by decide)), _, rfl, iteF ?_⟩
          exact ⟨_, rfl, rfl, false, rfl, iteF ⟨G, _, _, rfl, S3, W⟩⟩
    · rintro σ' H' ⟨G, c8, c9, rfl, S, W⟩
      exact ⟨a, b, G, d, _, _, _, _, _, _, _, _, _, _, _, _, _, rfl, S, W, nx⟩
  obtain ⟨t, ht, hw⟩ := key
  exact ⟨fun pins s σ H D I h => ht.run pins s σ H D I (hw D σ H h)⟩
end
end Kp

set_option Elab.async false
set_option linter.all false
set_option maxRecDepth 100000
set_option maxHeartbeats 4000000
namespace Kp
open PySem PySem.Spec PyProof.Rows L2 SlX
/-- some more that stands is frozen -/
def frz (bs : List Addr) (G H : Hp) : Hp := fun a => if a ∈ bs then H a else G a
theorem frz_in {bs : List Addr} {G H : Hp} {a : Addr} (h : a ∈ bs) : frz bs G H a = H a := if_pos h
theorem Ls.fixs {b P : Addr} {G H : Hp} (s : Ls b P G H) {bs : List Addr} (h : ∀ t ∈ bs, ∃ xs, H t = some (.tup xs)) : Ls b P (frz bs G H) H ∧ Same G (frz bs G H) := by
  have sub : Same G (frz bs G H) := fun a o e => by
    unfold frz
    split
    · exact s.bs.fz _ _ e
    · exact e
  have nb : b ∉ bs := fun m => by
    obtain ⟨xs, e⟩ := h b m
    obtain ⟨l, z0, z1, z2, ns, e2, _⟩ := s.bs.bag
    rw [e] at e2; cases e2
  have nP : P ∉ bs := fun m => by
    obtain ⟨xs, e⟩ := h P m
    obtain ⟨ps, e2, _⟩ := s.tb
    rw [e] at e2; cases e2
  refine ⟨⟨⟨fun a o e => ?_, s.bs.bag.sameH (Same.refl _) sub, by unfold frz; rw [if_neg nb]; exact s.bs.gb⟩, s.tb, s.pb, by unfold frz; rw [if_neg nP]; exact s.gP⟩, sub⟩
  unfold frz at e
  split at e
  · exact e
  · exact s.bs.fz _ _ e
theorem tups_of_keys {H : Hp} : ∀ {kvs : List (List L2.Key × V)} {bs : List Addr} {ms : List Pr}, IsKeys H kvs bs → kvs.map (·.1) = ms.map pk → TupsAt H (bs.map V.ref) ms ∧ ∀ t ∈ bs, ∃ xs, H t = some (.tup xs)
  | _, _, ms, .nil, e => by
    have : ms = [] := by simpa using e.symm
    subst this
    exact ⟨.nil, fun t ht => by cases ht⟩
  | _, _, ms, .cons (a := kv) (b := b) (l₁ := kvs) (l₂ := bs) r t, e => by
    cases ms with
    | nil => cases e
    | cons p ms =>
      rw [List.map_cons, List.map_cons] at e
      injection e with e1 e2
      obtain ⟨i1, i2⟩ := tups_of_keys t e2
      have hb : H b = some (.tup [.int p.1, .int p.2]) := by
        rw [r, e1]; rfl
      refine ⟨⟨by rw [List.map_cons, List.length_cons, List.length_cons, i1.1], fun i v q a b' => ?_⟩, fun t ht => ?_⟩
      · cases i with
        | zero =>
          simp at a b'
          subst a
          subst b'
          exact ⟨_, rfl, hb⟩
        | succ i => exact i1.2 i v q (by simpa using a) (by simpa using b')
      · rcases List.mem_cons.mp ht with z | z
        · rw [z]; exact ⟨_, hb⟩
        · exact i2 t z
end Kp

namespace Kp
open PySem PySem.Spec PyProof.Rows L2 SlX
theorem bt_sorted : bootBuiltins "sorted" = some (.builtin "sorted") := by decide +kernel
theorem closed_all {ins : List Str} {r1 r2 : List Row} {ms : List Pr} (o1 : OkRules ins r1) (o2 : OkRules ins r2) (nd : ms.Nodup) (mem : ∀ q, q ∈ ms ↔ Reach ins r1 r2 q) : Closed ins r1 r2 (.list (ms.map pairD)) ↔ AllAg ins r1 r2 := by
  rw [closed_iff fun p hp => ((mem p).mp hp).inR o1 o2]
  constructor
  · rintro ⟨_, _, h⟩ p hp k hk
    exact (h p ((mem p).mpr hp) k hk).1
  · intro h
    exact ⟨(mem _).mpr .start, nd, fun p hp k hk => ⟨h p ((mem p).mp hp) k hk, (mem _).mpr (.step ((mem p).mp hp) hk)⟩⟩
section
variable {P : Program} {w : World} {K : PySem.W.Frag} {mg : Str → Option Value} {base : Heap} {C U KE f : Addr} {cdv : Value} {A : Around} {outer : List Env} {s0 : Shared} {H0 : Hp} {E0' : XK}
/-- what is drawn and made ahead of the pairs -/
structure Dt0 (K : PySem.W.Frag) (C : Addr) (G : Hp) (d : Dat) : Prop where
  n : ∃ n, Nms n d.ins ∧ 0 < n ∧ n < 4
  hi : G d.ai = some (.lst (d.ins.map V.str))
  R1 : Ru K G d.a1 d.x1 d.ins d.r1
  R2 : Ru K G d.a2 d.x2 d.ins d.r2
  l1 : d.r1.length ≤ 5
  l2 : d.r2.length ≤ 6
  p : d.ss.Perm d.ins
  so : sortedS d.ss = true
  M1 : Ma K C G d.v1 d.ss (d.r1.map (reord d.ss))
  M2 : Ma K C G d.v2 d.ss (d.r2.map (reord d.ss))
theorem Dt0.oi {d : Dat} {G : Hp} (h : Dt0 K C G d) : OkIns d.ins := by
  obtain ⟨n, hn, h0, h1⟩ := h.n
  exact hn.ins h0 (by omega)
def T3 (K : PySem.W.Frag) (C P : Addr) : TS := fun D σ H => ∃ (a b : Addr) (G : Hp) (d : Dat) (c2 c4 c7 c8 c9 c10 c11 c12 c13 c14 c17 c18 c19 c20 : Option V),
  σ = [some (.ref a), some (.ref b), c2, some (.ref d.ai), c4, some (.ref d.a1), some (.ref d.a2), c7, c8, c9, c10, c11, c12, c13, c14, some d.v1, some d.v2, c17, c18, c19, c20] ∧ Ls b P G H ∧ Dt0 K C G d ∧ Nxt a b P D
theorem tail3 {c Pt : Addr} (Z : Env92 P w K mg base C U KE) (hr : Room 8 (XL P w K mg base f cdv A outer s0 H0 E0').A) (gA : (XL P w K mg base f cdv A outer s0 H0 E0').A.guards = some []) (TB : LamX.TabB base mg c Pt) (hcode : cdv = .ref c) : PSs (XL P w K mg base f cdv A outer s0 H0 E0') (turnB.drop 4) (T3 K C Pt) := by
  have T := Z.t
  have key : ∃ t, PSs (XL P w K mg base f cdv A outer s0 H0 E0') (turnB.drop 4) t ∧ ∀ D σ H, T3 K C Pt D σ H → t D σ H := by
    refine ⟨_, (pss_cons (ps_set (i := 17) sc_law.nd rfl (.inr rfl) (pe_callB (call_sortedDT rfl) (by rfl) T.b_sorted bt_sorted (pa_cons (pe_cal Z.cm (hr.mono (by decide)) pass0 (pa_cons (pe_lst (pa_cons (pv 5) (pa_cons (pv 6) pa_nil))) pa_nil)) pa_nil)))
      (pss_cons (ps_set (i := 7) sc_law.nd rfl (.inl rfl) (pe_ifExp (pt_val (pe_cal Z.cc (hr.mono (by decide)) pass0 (pa_cons (pv 5) (pa_cons (pv 6) (pa_cons (pv 17) pa_nil))))) (pv 17) pe_non))
      (tail4 (C := C) (Pt := Pt) Z hr gA TB hcode))), ?_⟩
    rintro D σ H ⟨a, b, G, d, c2, c4, c7, c8, c9, c10, c11, c12, c13, c14, c17, c18, c19, c20, rfl, S, W, nx⟩
    refine ⟨_, rfl, _, rfl, by show 2 ≤ sizeLine; decide, fun l nl => ?_⟩
    have S1 := S.junk (o := .lst [.ref d.a1, .ref d.a2]) nl
    refine ⟨l, d.a1, d.a2, G, d.x1, d.x2, d.ins, d.r1, d.r2, rfl, S1.bs.fz, SqL.of upd_same, W.R1, W.R2, W.oi, fun G2 H2 v g ⟨dd, kvs, vs, ms, ev, hd, hk, nd, mem⟩ => ?_⟩
    subst ev
    have S2 := S1.call0 g
    refine ⟨dd, kvs, rfl, .inl hd, fun bs kb => ?_⟩
    obtain ⟨tu, tups⟩ := tups_of_keys kb hk
    refine ⟨kP H2, fun x hx => tu.mem hx, fun ys p sr st np => ?_⟩
    obtain ⟨S3, u3⟩ := S2.fixs tups
    obtain ⟨tp, pm⟩ := tu.perm st.perm
    have tu3 : TupsAt (frz bs G2 H2) ys (ys.map (kP H2)) := ⟨tp.1, fun i v q e1 e2 => by
      obtain ⟨t, rfl, ht⟩ := tp.2 i v q e1 e2
      obtain ⟨t', m, e⟩ := List.mem_map.mp (st.perm.mem_iff.mp (List.mem_of_getElem? e1))
      cases e
      exact ⟨_, rfl, by rw [frz_in m]; exact ht⟩⟩
    have S4 := S3.new (o := .lst ys) np
    have u4 := same_new (o := .lst ys) (none_of S3.bs.fz np)
    have g4 : upd (frz bs G2 H2) p (.lst ys) p = some (.lst ys) := upd_same
    have tu4 := tu3.up u4
    generalize upd (frz bs G2 H2) p (.lst ys) = G4 at S4 u4 g4 tu4
    generalize upd H2 p (.lst ys) = H4 at S4
    have uG := (g.sub.trans u3).trans u4
    have nd4 : (ys.map (kP H2)).Nodup := pm.nodup_iff.mpr nd
    have mem4 : ∀ q, q ∈ ys.map (kP H2) ↔ Reach d.ins d.r1 d.r2 q := fun q => by rw [pm.mem_iff, mem q]
    have le4 := srtd_keys sr
    have W4 : Dt K C G4 { d with ap := p, xs := ys, ms := ys.map (kP H2) } := ⟨W.n, uG _ _ W.hi, W.R1.up uG, W.R2.up uG, W.l1, W.l2, W.p, W.so, W.M1.up uG, W.M2.up uG, g4, tu4, nd4, le4, mem4⟩
    refine ⟨_, rfl, _, rfl, _, rfl, d.a1, d.a2, .ref p, _, G4, d.x1, d.x2, d.ins, d.r1, d.r2, rfl, S4.bs.fz, W4.R1, W4.R2, W.oi, W4.dd, W4.fine, fun H5 b5 e5 hb5 => ?_⟩
    have ca := closed_all W.R1.ok W.R2.ok nd4 mem4
    have S5 := S4.pure e5
    cases b5 with
    | true =>
      refine ⟨_, rfl, iteT ⟨_, rfl, ?_⟩⟩
      exact ⟨a, b, G4, { d with ap := p, xs := ys, ms := ys.map (kP H2) }, .ref p, _, _, _, _, _, _, _, _, _, _, _, _, rfl, S5, W4, .inl ⟨ca.mp (hb5.mp rfl), rfl⟩, nx⟩
    | false =>
      refine ⟨_, rfl, iteF ?_⟩
      exact ⟨a, b, G4, { d with ap := p, xs := ys, ms := ys.map (kP H2) }, .non, _, _, _, _, _, _, _, _, _, _, _, _, rfl, S5, W4, .inr ⟨fun h => absurd (hb5.mpr (ca.mpr h)) (by decide), rfl⟩, nx⟩
  obtain ⟨t, ht, hw⟩ := key
  exact ⟨fun pins s σ H D I h => ht.run pins s σ H D I (hw D σ H h)⟩
end
end Kp

set_option Elab.async false
set_option linter.all false
set_option maxRecDepth 100000
set_option maxHeartbeats 4000000
namespace Kp
open PySem PySem.Spec PyProof.Rows L2 SlX
section
variable {P : Program} {w : World} {K : PySem.W.Frag} {mg : Str → Option Value} {base : Heap} {C U KE f : Addr} {cdv : Value} {A : Around} {outer : List Env} {s0 : Shared} {H0 : Hp} {E0' : XK}
def T0 (P : Addr) : TS := fun D σ H => ∃ (a b : Addr) (G : Hp) (c2 c3 c4 c5 c6 c7 c8 c9 c10 c11 c12 c13 c14 c15 c16 c17 c18 c19 c20 : Option V),
  σ = [some (.ref a), some (.ref b), c2, c3, c4, c5, c6, c7, c8, c9, c10, c11, c12, c13, c14, c15, c16, c17, c18, c19, c20] ∧ Ls b P G H ∧ Nxt a b P D
theorem turn_ok {c Pt : Addr} (Z : Env92 P w K mg base C U KE) (hr : Room 8 (XL P w K mg base f cdv A outer s0 H0 E0').A) (gA : (XL P w K mg base f cdv A outer s0 H0 E0').A.guards = some []) (TB : LamX.TabB base mg c Pt) (hcode : cdv = .ref c) : PSs (XL P w K mg base f cdv A outer s0 H0 E0') turnB (T0 Pt) := by
  have T := Z.t
  obtain ⟨fI, fd, MK, FI, BI⟩ := Z.mkr
  have key : ∃ t, PSs (XL P w K mg base f cdv A outer s0 H0 E0') turnB t ∧ ∀ D σ H, T0 Pt D σ H → t D σ H := by
    refine ⟨_, (pss_cons (ps_par (i := 3) (j := 4) (by rfl) sc_law.nd rfl rfl (by decide) rfl rfl (pa_cons (pe_cal Z.cn (hr.mono (by decide)) pass0 (pa_cons (pv 1) (pa_cons (pe_op op_add pe_int (pe_cal Z.tk (hr.mono (by decide)) pass0 (pa_cons (pv 1) (pa_cons pe_int pa_nil)))) pa_nil))) (pa_cons (pe_cal Z.cn (hr.mono (by decide)) pass0 (pa_cons (pv 1) (pa_cons (pe_cal Z.co (hr.mono (by decide)) pass0 (pa_cons (pv 1) (pa_cons (pe_lst (pa_cons pe_int (pa_cons pe_int (pa_cons pe_int (pa_cons pe_int pa_nil))))) pa_nil))) pa_nil))) pa_nil)) (by rfl))
      (pss_cons (ps_set (i := 5) sc_law.nd rfl (.inl rfl) (pe_cal Z.cr (hr.mono (by decide)) pass0 (pa_cons (pv 1) (pa_cons (pv 3) (pa_cons (pe_op op_add pe_int (pe_cal Z.tk (hr.mono (by decide)) pass0 (pa_cons (pv 1) (pa_cons pe_int pa_nil)))) (pa_cons (pv 4) pa_nil))))))
      (pss_cons (ps_set (i := 6) sc_law.nd rfl (.inl rfl) (pe_cal Z.co (hr.mono (by decide)) pass0 (pa_cons (pv 1) (pa_cons (pe_lst (pa_cons (pe_cal Z.cd (hr.mono (by decide)) pass0 (pa_cons (pv 1) (pa_cons (pv 5) pa_nil))) (pa_cons (pe_cal Z.cnr (hr.mono (by decide)) pass0 (pa_cons (pv 1) (pa_cons (pv 5) (pa_cons (pv 4) pa_nil)))) (pa_cons (pe_cal Z.cf (hr.mono (by decide)) pass0 (pa_cons (pv 5) pa_nil)) (pa_cons (pv 5) pa_nil))))) pa_nil))))
      (pss_cons (ps_asg (pe_tup (pa_cons (pe_make MK FI (hr.mono (by decide)) rfl Z.m.m.g BI .nil pass0 (pa_cons (pv 3) (pa_cons (pv 5) pa_nil))) (pa_cons (pe_make MK FI (hr.mono (by decide)) rfl Z.m.m.g BI .nil pass0 (pa_cons (pe_revL (pv 3)) (pa_cons (pv 6) pa_nil))) pa_nil))) (pg_tup rfl (pgs_cons (pg_name (i := 15) sc_law.nd rfl (.inr rfl)) (pgs_cons (pg_name (i := 16) sc_law.nd rfl (.inr rfl)) pgs_nil))))
      (tail3 (C := C) (Pt := Pt) Z hr gA TB hcode))))), ?_⟩
    rintro D σ H ⟨a, b, G, c2, c3, c4, c5, c6, c7, c8, c9, c10, c11, c12, c13, c14, c15, c16, c17, c18, c19, c20, rfl, S, nx⟩
    have sl : 1000 ≤ sizeLine := by decide
    refine ⟨_, rfl, _, rfl, b, 3, G, rfl, S.bs, by decide, by decide, fun i1 o i10 i11 B1 => ?_⟩
    have S1 := S.draw B1
    generalize upd H b o = H1 at S1
    obtain ⟨n1, rfl⟩ : ∃ n : Nat, i1 = n := ⟨i1.toNat, by omega⟩
    have e1 : (1 : Int) + (n1 : Int) = ((1 + n1 : Nat) : Int) := by omega
    refine ⟨_, _, rfl, rfl, b, 1 + n1, G, by rw [← e1]; rfl, S1.bs, by omega, by omega, fun G2 H2 v g bag ⟨ai, ins, ev, hai, hn⟩ => ?_⟩
    subst ev
    have S2 := S1.callB g bag
    refine ⟨_, rfl, _, rfl, by show 4 ≤ sizeLine; decide, fun p np => ?_⟩
    have S3 := S2.junk (o := .lst [.int 1, .int 1, .int 2, .int 3]) np
    refine ⟨b, p, G2, [.int 1, .int 1, .int 2, .int 3], rfl, S3.bs, SqL.of upd_same, S2.ne np, by decide, by decide, fun i v o hv B3 => ?_⟩
    have S4 := S3.draw B3
    generalize upd (upd H2 p (.lst [.int 1, .int 1, .int 2, .int 3])) b o = H4 at S4
    obtain ⟨n2, rfl, n20, n24⟩ : ∃ n : Nat, v = .int n ∧ 0 < n ∧ n < 4 := by
      match i, hv with
      | 0, h => exact ⟨1, (Option.some.inj h).symm, by decide, by decide⟩
      | 1, h => exact ⟨1, (Option.some.inj h).symm, by decide, by decide⟩
      | 2, h => exact ⟨2, (Option.some.inj h).symm, by decide, by decide⟩
      | 3, h => exact ⟨3, (Option.some.inj h).symm, by decide, by decide⟩
      | _ + 4, h => cases h
    refine ⟨b, n2, G2, rfl, S4.bs, n20, n24, fun G5 H5 v g5 bag5 ⟨ao, outs, ev, hao, ho⟩ => ?_⟩
    subst ev
    have S5 := S4.callB g5 bag5
    have hai := g5.sub _ _ hai
    have oi := hn.ins (by omega) (by omega)
    refine ⟨_, _, rfl, ?_⟩
    -- the rules
    refine ⟨_, rfl, _, rfl, _, rfl, b, 5, G5, rfl, S5.bs, by decide, by decide, fun i3 o i30 i31 B6 => ?_⟩
    have S6 := S5.draw B6
    generalize upd H5 b o = H6 at S6
    obtain ⟨n3, rfl⟩ : ∃ n : Nat, i3 = n := ⟨i3.toNat, by omega⟩
    have e3 : (1 : Int) + (n3 : Int) = ((1 + n3 : Nat) : Int) := by omega
    have one : outs ≠ [] := (ho.ins n20 (by omega)).ne
    have o64 : outs.length < 64 := (ho.ins n20 (by omega)).few
    refine ⟨_, _, rfl, rfl, _, rfl, b, ai, ao, 1 + n3, G5, ins, outs, by rw [← e3]; rfl, S6.bs, hai, oi, by omega, by omega, hao, one, o64, ho.ok, fun G7 H7 v g7 bag7 ⟨r1, dv, ok1, rl⟩ => ?_⟩
    have S7 := S6.callB g7 bag7
    have hai := g7.sub _ _ hai
    have hao := g7.sub _ _ hao
    obtain ⟨a1, x1, rfl, R1⟩ := ru_of dv ok1
    -- the others
    refine ⟨_, rfl, _, rfl, _, rfl, b, a1, G7, x1, ins, r1, rfl, S7.bs, R1, oi, by omega, fun G8 H8 v8 g8 bag8 ⟨q8, d8, o8, l8⟩ => ?_⟩
    have S8 := S7.callB g8 bag8
    refine ⟨_, rfl, _, rfl, _, rfl, b, a1, ao, G8, x1, ins, outs, r1, rfl, S8.bs, R1.up g8.sub, oi, g8.sub _ _ hao, one, o64, ho.ok, fun G9 H9 v9 g9 bag9 ⟨q9, d9, o9, l9⟩ => ?_⟩
    have S9 := S8.callB g9 bag9
    refine ⟨_, rfl, a1, G9, x1, ins, r1, rfl, S9.bs.fz, (R1.up g8.sub).up g9.sub, oi, fun G10 H10 v10 g10 ⟨q10, d10, o10, l10⟩ => ?_⟩
    have S10 := S9.call0 g10
    have u10 := (g8.sub.trans g9.sub).trans g10.sub
    have R1 := R1.up u10
    have hai := u10 _ _ hai
    have d8 := d8.up (g9.sub.trans g10.sub)
    have d9 := d9.up g10.sub
    have dv := dv.up u10
    refine ⟨_, rfl, by show 4 ≤ sizeLine; decide, fun pl npl => ?_⟩
    have S11 := S10.junk (o := .lst [v8, v9, v10, .ref a1]) npl
    refine ⟨b, pl, G10, [v8, v9, v10, .ref a1], rfl, S11.bs, SqL.of upd_same, S10.ne npl, by show 0 < 4; decide, by show 4 < 1000000; decide, fun i v o hv B12 => ?_⟩
    have S12 := S11.draw B12
    generalize upd (upd H10 pl (.lst [v8, v9, v10, .ref a1])) b o = H12 at S12
    obtain ⟨r2, dv2, ok2, l2⟩ : ∃ r2, DD K G10 v (rulesD r2) ∧ OkRules ins r2 ∧ r2.length ≤ 6 := by
      match i, hv with
      | 0, h => exact ⟨q8, by rw [← Option.some.inj h]; exact d8, o8, by omega⟩
      | 1, h => exact ⟨q9, by rw [← Option.some.inj h]; exact d9, o9, by omega⟩
      | 2, h => exact ⟨q10, by rw [← Option.some.inj h]; exact d10, o10, by omega⟩
      | 3, h => exact ⟨r1, by rw [← Option.some.inj h]; exact dv, ok1, by omega⟩
      | _ + 4, h => cases h
    obtain ⟨a2, x2, rfl, R2⟩ := ru_of dv2 ok2
    -- the machines
    refine ⟨_, rfl, _, rfl, ?_⟩
    change ∀ (x dx : Addr), H12 x = none → H12 dx = none → dx ≠ x → _
    refine mk_step S12 (SqL.of hai) oi dv ok1 (fun G13 H13 m1 s1 S13 u13 _ M1 p1 so1 => ?_)
    have hai := u13 _ _ hai
    refine ⟨_, rfl, ai, _, rfl, SqL.of (S13.bs.fz _ _ hai), fun pr npr => ?_⟩
    rw [← List.map_reverse]
    have S14 := S13.new (o := .lst (ins.reverse.map V.str)) npr
    have u14 := same_new (o := .lst (ins.reverse.map V.str)) (none_of S13.bs.fz npr)
    have g14 : upd G13 pr (.lst (ins.reverse.map V.str)) pr = some (.lst (ins.reverse.map V.str)) := upd_same
    generalize upd G13 pr (.lst (ins.reverse.map V.str)) = G14 at S14 u14 g14
    generalize upd H13 pr (.lst (ins.reverse.map V.str)) = H14 at S14
    have pR : ins.Perm ins.reverse := (List.reverse_perm ins).symm
    refine ⟨_, rfl, ?_⟩
    change ∀ (x dx : Addr), H14 x = none → H14 dx = none → dx ≠ x → _
    refine mk_step S14 (SqL.of g14) (oi.perm pR) (dv2.up (u13.trans u14)) (ok2.perm pR) (fun G15 H15 m2 s2 S15 u15 _ M2 p2 so2 => ?_)
    have es : s2 = s1 := sorted_eq so2 so1 (p2.trans (pR.symm.trans p1.symm))
    subst es
    refine ⟨by show 2 ≤ sizeLine; decide, fun tt ntt => ?_⟩
    have S16 := S15.junk (o := .tup [.ref m1, .ref m2]) ntt
    refine ⟨tt, _, rfl, SqT.of upd_same, rfl, _, _, rfl, _, _, rfl, rfl, ?_⟩
    have uu := (u13.trans u14).trans u15
    refine ⟨a, b, G15, ⟨ai, a1, a2, 0, ins, s2, x1, x2, [], r1, r2, .ref m1, .ref m2, []⟩, _, _, _, _, _, _, _, _, _, _, _, _, _, _, rfl, S16, ⟨⟨1 + n1, hn, by omega, by omega⟩, (u14.trans u15) _ _ hai, R1.up uu, R2.up uu, by show r1.length ≤ 5; omega, l2, p1, so1, M1.up (u14.trans u15), M2⟩, nx⟩
  obtain ⟨t, ht, hw⟩ := key
  exact ⟨fun pins s σ H D I h => ht.run pins s σ H D I (hw D σ H h)⟩
end
end Kp

set_option Elab.async false
set_option linter.all false
set_option maxRecDepth 100000
set_option maxHeartbeats 4000000
namespace Kp
open PySem PySem.Spec PyProof.Rows L2 SlX
section
variable {P : Program} {w : World} {K : PySem.W.Frag} {mg : Str → Option Value} {base : Heap}
/-- a def by its body, its code known -/
theorem okG2 {x qual : Str} {st : Stmt} {f : Addr} {fd : FuncData} {N ps : List Str} {k : Nat} {sp : Sp} (F : Fun K x qual st f fd) (S : FnScope N ps (defScope st)) (len : ∀ vs H Q E, sp vs H Q E → vs.length = ps.length)
    (body : ∀ (cdv : Value) (A : Around) (outer : List Env) (s : Shared) (H : Hp) (vs : List V) (Q : VK) (E : XK), fd.code = cdv → Room k (A.deeper (envOfC qual (defScope st) s.heap.objs.size f cdv)) → A.guards = some [] → sp vs H Q E →
      ∃ t, PSs (cxOf CX0 P w K mg base N qual (defScope st) f cdv A outer s H E).nox (defBody st) t ∧ t { nx := fun _ H' => Q .non H', rt := Q } (start N vs) H) : FnG P w K mg base CX0 (k + 1) f fd ps sp := by
  obtain ⟨oc, od, kV, doc, pm, an, cdv, ct, osl, e, lk, hcd⟩ := F.ex
  have ec : fd.code = cdv := by rw [e]
  subst e
  exact ⟨len, fun A outer s H args us vs Q E hg hr e0 hb r h => LamX.run_ofS lk hcd S hr e0 hb r (len vs H Q E h) fun hr' => (body cdv A outer s H vs Q E ec hr' hg h).imp fun t z => ⟨z.1.nox, z.2⟩⟩
/-- the law: True for every script -/
def spLaw (K : PySem.W.Frag) (Pt : Addr) : Sp := fun vs H Q _ => ∃ (a : Addr) (ns : List Int), vs = [.ref a] ∧ SqL K H a (ns.map V.int) ∧ H Pt = some (.tbl #[]) ∧ ∀ H', Q (.bl true) H'
theorem ok_law {C U KE f c Pt : Addr} {fd : FuncData} (F : Fun K "law" "law" s_law f fd) (Z : Env92 P w K mg base C U KE) (TB : LamX.TabB base mg c Pt) (hc : fd.code = .ref c) : FnG P w K mg base CX0 9 f fd ["_law_script"] (spLaw K Pt) := by
  refine okG2 F sc_law (fun vs H Q E h => ?_) (fun cdv A outer s H vs Q E ec hr gA h => ?_)
  · obtain ⟨a, ns, rfl, _⟩ := h
    rfl
  · obtain ⟨a, ns, rfl, ha, hP, k⟩ := h
    have T := Z.t
    refine ⟨_, (pss_cons (ps_set (i := 1) sc_law.nd rfl (.inl rfl) (pe_cal Z.cg (hr.mono (by decide)) pass0 (pa_cons (pv 0) pa_nil)))
      (pss_cons (ps_for PassesOwn.never rfl (pi_range1 (by rfl) T.b_range (pa_cons pe_int pa_nil)) (pg_name (i := 2) sc_law.nd rfl (.inl rfl))
        (turn_ok (c := c) (Pt := Pt) Z hr gA TB (ec.symm.trans hc)))
      (pss_one (ps_ret pe_bl)))), ?_⟩
    refine ⟨_, rfl, a, ns, rfl, ha, fun G H' b e1 e2 bag gb => ?_⟩
    have hP' := e1 _ _ hP
    obtain ⟨l, z0, z1, z2, is, h1, h2, r⟩ := bag
    have lP : l ≠ Pt := fun e => by
      have := e2 _ _ h2
      rw [e, hP'] at this
      cases this
    have pb : Pt ≠ b := fun e => by
      rw [← e, hP'] at h1
      cases h1
    have S : Ls b Pt (fun x => if x = Pt then none else G x) H' := by
      refine ⟨⟨fun x o e => ?_, ⟨l, z0, z1, z2, is, h1, (if_neg lP).trans h2, r⟩, (if_neg pb.symm).trans gb⟩, LamX.TabS.nil hP', pb, if_pos rfl⟩
      have e' : (if x = Pt then none else G x) = some o := e
      by_cases q : x = Pt
      · rw [if_pos q] at e'; cases e'
      · rw [if_neg q] at e'; exact e2 _ _ e'
    refine ⟨3, rfl, by decide, by decide, ?_⟩
    refine for_range (lo := 0) (n := 3) (fun i σ' H' => ∃ (G : Hp) (c2 c3 c4 c5 c6 c7 c8 c9 c10 c11 c12 c13 c14 c15 c16 c17 c18 c19 c20 : Option V), σ' = [some (.ref a), some (.ref b), c2, c3, c4, c5, c6, c7, c8, c9, c10, c11, c12, c13, c14, c15, c16, c17, c18, c19, c20] ∧ Ls b Pt G H')
      ⟨_, _, _, _, _, _, _, _, _, _, _, _, _, _, _, _, _, _, _, _, rfl, S⟩ ?_ ?_
    · rintro i σ' H' hi ⟨G, c2, c3, c4, c5, c6, c7, c8, c9, c10, c11, c12, c13, c14, c15, c16, c17, c18, c19, c20, rfl, S⟩
      exact ⟨a, b, G, _, _, _, _, _, _, _, _, _, _, _, _, _, _, _, _, _, _, _, rfl, S, fun G H c2 c3 c4 c5 c6 c7 c8 c9 c10 c11 c12 c13 c14 c15 c16 c17 c18 c19 c20 S' => ⟨G, _, _, _, _, _, _, _, _, _, _, _, _, _, _, _, _, _, _, _, rfl, S'⟩⟩
    · rintro σ' H' _
      exact k H'
end
end Kp

set_option Elab.async false
set_option linter.all false
set_option maxRecDepth 100000
set_option maxHeartbeats 8000000
namespace Kp
open PySem PySem.Spec PyProof.Rows L2 SlX
/-! ### what the top leaves, and the end -/
theorem kitC_list {K : PySem.W.Frag} {C : Addr} (h : PySem.W.subIn K (.ref C) (.type "list") = some false) : PySem.W.kitOne K (.ref C) (.type "list") = some false := by
  have e1 : (Value.ref C == Value.type "list") = false := rfl
  have e2 : PySem.W.kitMeta "list" = true := by decide +kernel
  show (if (Value.ref C == Value.type "list") = true then some true else if PySem.W.kitMeta "list" = true then PySem.W.subIn K (.ref C) (.type "list") else none) = some false
  rw [if_neg (by rw [e1]; exact Bool.false_ne_true), if_pos e2]
  exact h
theorem kit_same {K : PySem.W.Frag} {U : Addr} : PySem.W.kitOne K (.ref U) (.ref U) = some true := by
  show (if (Value.ref U == Value.ref U) = true then some true else _) = some true
  rw [if_pos (beq_self_eq_true _)]
theorem all_mk {l : PySem.W.OpenLaw} {P : Program} (hP : l.prog = P) {w : World} {K : PySem.W.Frag} {h : Heap} {mg : Str → Option Value} {fa : Addr} (X : K.In h) (G : h.Ns mainGlobals mg) (hfa : mg "law" = some (.ref fa))
    {C U KE : Addr}
    {f_ii : Addr} {od_ii an_ii : Option Addr} {sl_ii : Array (Option Value)} {oc_ii kV_ii dc_ii pm_ii cd_ii ct_ii : Value}
    {f_inm : Addr} {od_inm an_inm : Option Addr} {sl_inm : Array (Option Value)} {oc_inm kV_inm dc_inm pm_inm cd_inm ct_inm : Value}
    {f_ai : Addr} {od_ai an_ai : Option Addr} {sl_ai : Array (Option Value)} {oc_ai kV_ai dc_ai pm_ai cd_ai ct_ai : Value}
    {f_ist : Addr} {od_ist an_ist : Option Addr} {sl_ist : Array (Option Value)} {oc_ist kV_ist dc_ist pm_ist cd_ist ct_ist : Value}
    {f_ir : Addr} {od_ir an_ir : Option Addr} {sl_ir : Array (Option Value)} {oc_ir kV_ir dc_ir pm_ir cd_ir ct_ir : Value}
    {f_nl : Addr} {od_nl an_nl : Option Addr} {sl_nl : Array (Option Value)} {oc_nl kV_nl dc_nl pm_nl cd_nl ct_nl : Value}
    {f_pr : Addr} {od_pr an_pr : Option Addr} {sl_pr : Array (Option Value)} {oc_pr kV_pr dc_pr pm_pr cd_pr ct_pr : Value}
    {f_ss : Addr} {od_ss an_ss : Option Addr} {sl_ss : Array (Option Value)} {oc_ss kV_ss dc_ss pm_ss cd_ss ct_ss : Value}
    {f_pb : Addr} {od_pb an_pb : Option Addr} {sl_pb : Array (Option Value)} {oc_pb kV_pb dc_pb pm_pb cd_pb ct_pb : Value}
    {f_ps : Addr} {od_ps an_ps : Option Addr} {sl_ps : Array (Option Value)} {oc_ps kV_ps dc_ps pm_ps cd_ps ct_ps : Value}
    {f_ip : Addr} {od_ip an_ip : Option Addr} {sl_ip : Array (Option Value)} {oc_ip kV_ip dc_ip pm_ip cd_ip ct_ip : Value}
    {f_ap : Addr} {od_ap an_ap : Option Addr} {sl_ap : Array (Option Value)} {oc_ap kV_ap dc_ap pm_ap cd_ap ct_ap : Value}
    {f_lbag : Addr} {od_lbag an_lbag : Option Addr} {sl_lbag : Array (Option Value)} {oc_lbag kV_lbag dc_lbag pm_lbag cd_lbag ct_lbag : Value}
    {f_ltk : Addr} {od_ltk an_ltk : Option Addr} {sl_ltk : Array (Option Value)} {oc_ltk kV_ltk dc_ltk pm_ltk cd_ltk ct_ltk : Value}
    {f_lone : Addr} {od_lone an_lone : Option Addr} {sl_lone : Array (Option Value)} {oc_lone kV_lone dc_lone pm_lone cd_lone ct_lone : Value}
    {f_lmx : Addr} {od_lmx an_lmx : Option Addr} {sl_lmx : Array (Option Value)} {oc_lmx kV_lmx dc_lmx pm_lmx cd_lmx ct_lmx : Value}
    {f_lal : Addr} {od_lal an_lal : Option Addr} {sl_lal : Array (Option Value)} {oc_lal kV_lal dc_lal pm_lal cd_lal ct_lal : Value}
    {f_lwh : Addr} {od_lwh an_lwh : Option Addr} {sl_lwh : Array (Option Value)} {oc_lwh kV_lwh dc_lwh pm_lwh cd_lwh ct_lwh : Value}
    {f_lod : Addr} {od_lod an_lod : Option Addr} {sl_lod : Array (Option Value)} {oc_lod kV_lod dc_lod pm_lod cd_lod ct_lod : Value}
    {f_lnm : Addr} {od_lnm an_lnm : Option Addr} {sl_lnm : Array (Option Value)} {oc_lnm kV_lnm dc_lnm pm_lnm cd_lnm ct_lnm : Value}
    {f_lru : Addr} {od_lru an_lru : Option Addr} {sl_lru : Array (Option Value)} {oc_lru kV_lru dc_lru pm_lru cd_lru ct_lru : Value}
    {f_lnr : Addr} {od_lnr an_lnr : Option Addr} {sl_lnr : Array (Option Value)} {oc_lnr kV_lnr dc_lnr pm_lnr cd_lnr ct_lnr : Value}
    {f_ldb : Addr} {od_ldb an_ldb : Option Addr} {sl_ldb : Array (Option Value)} {oc_ldb kV_ldb dc_ldb pm_ldb cd_ldb ct_ldb : Value}
    {f_lmt : Addr} {od_lmt an_lmt : Option Addr} {sl_lmt : Array (Option Value)} {oc_lmt kV_lmt dc_lmt pm_lmt cd_lmt ct_lmt : Value}
    {f_lfw : Addr} {od_lfw an_lfw : Option Addr} {sl_lfw : Array (Option Value)} {oc_lfw kV_lfw dc_lfw pm_lfw cd_lfw ct_lfw : Value}
    {f_lou : Addr} {od_lou an_lou : Option Addr} {sl_lou : Array (Option Value)} {oc_lou kV_lou dc_lou pm_lou cd_lou ct_lou : Value}
    {f_lip : Addr} {od_lip an_lip : Option Addr} {sl_lip : Array (Option Value)} {oc_lip kV_lip dc_lip pm_lip cd_lip ct_lip : Value}
    {f_lac : Addr} {od_lac an_lac : Option Addr} {sl_lac : Array (Option Value)} {oc_lac kV_lac dc_lac pm_lac cd_lac ct_lac : Value}
    {f_lab : Addr} {od_lab an_lab : Option Addr} {sl_lab : Array (Option Value)} {oc_lab kV_lab dc_lab pm_lab cd_lab ct_lab : Value}
    {f_lbt : Addr} {od_lbt an_lbt : Option Addr} {sl_lbt : Array (Option Value)} {oc_lbt kV_lbt dc_lbt pm_lbt cd_lbt ct_lbt : Value}
    {f_law : Addr} {od_law an_law : Option Addr} {sl_law : Array (Option Value)} {oc_law kV_law dc_law pm_law cd_law ct_law : Value}
    {f_mi : Addr} {od_mi an_mi : Option Addr} {sl_mi : Array (Option Value)} {oc_mi kV_mi dc_mi pm_mi cd_mi ct_mi : Value}
    {f_ml : Addr} {od_ml an_ml : Option Addr} {sl_ml : Array (Option Value)} {oc_ml kV_ml dc_ml pm_ml cd_ml ct_ml : Value}
    {f_mp : Addr} {od_mp an_mp : Option Addr} {sl_mp : Array (Option Value)} {oc_mp kV_mp dc_mp pm_mp cd_mp ct_mp : Value}
    {f_ms : Addr} {od_ms an_ms : Option Addr} {sl_ms : Array (Option Value)} {oc_ms kV_ms dc_ms pm_ms cd_ms ct_ms : Value}
    {tl to : Tok} {wa : Addr}
    {w1 w2 w3 w4 w5 w6 w7 w8 : Tok} {wd : Option Addr} {wn : Nat} {wsl : Array (Option Value)}
    {p1 p2 : Addr}
    {fU cdaU ccU : Addr} {ocU cclU clU dcU pmU ctU : Value} {odU cddU cldU anU : Option Addr} {slU ccsU cslU : Array (Option Value)} {vsU : Array Value} {fileU : Str} {tfU : Tok} {c Pt : Addr}
    (aC : PySem.W.nsIn K mainGlobals "Machine" = some (some (.ref C)))
    (aU : PySem.W.nsIn K mainGlobals "Unlike" = some (some (.ref U)))
    (aK : PySem.W.nsIn K mainGlobals "KeptError" = some (some (.ref KE)))
    (a_ii : PySem.W.nsIn K mainGlobals "is_integer" = some (some (.ref f_ii)))
    (l_ii : K.lookup f_ii = some ⟨oc_ii, od_ii, .func (PySem.W.fnOf "is_integer" "is_integer" (defArgs s_is_integer) (defBody s_is_integer) (defScope s_is_integer) .none kV_ii dc_ii pm_ii an_ii cd_ii ct_ii), sl_ii⟩)
    (c_ii : PySem.W.codeIn K cd_ii "is_integer" = true)
    (k_ii : PySem.W.keepIn K (.ref f_ii) = true)
    (a_inm : PySem.W.nsIn K mainGlobals "is_name" = some (some (.ref f_inm)))
    (l_inm : K.lookup f_inm = some ⟨oc_inm, od_inm, .func (PySem.W.fnOf "is_name" "is_name" (defArgs s_is_name) (defBody s_is_name) (defScope s_is_name) .none kV_inm dc_inm pm_inm an_inm cd_inm ct_inm), sl_inm⟩)
    (c_inm : PySem.W.codeIn K cd_inm "is_name" = true)
    (k_inm : PySem.W.keepIn K (.ref f_inm) = true)
    (a_ai : PySem.W.nsIn K mainGlobals "are_inputs" = some (some (.ref f_ai)))
    (l_ai : K.lookup f_ai = some ⟨oc_ai, od_ai, .func (PySem.W.fnOf "are_inputs" "are_inputs" (defArgs s_are_inputs) (defBody s_are_inputs) (defScope s_are_inputs) .none kV_ai dc_ai pm_ai an_ai cd_ai ct_ai), sl_ai⟩)
    (c_ai : PySem.W.codeIn K cd_ai "are_inputs" = true)
    (k_ai : PySem.W.keepIn K (.ref f_ai) = true)
    (a_ist : PySem.W.nsIn K mainGlobals "is_step" = some (some (.ref f_ist)))
    (l_ist : K.lookup f_ist = some ⟨oc_ist, od_ist, .func (PySem.W.fnOf "is_step" "is_step" (defArgs s_is_step) (defBody s_is_step) (defScope s_is_step) .none kV_ist dc_ist pm_ist an_ist cd_ist ct_ist), sl_ist⟩)
    (c_ist : PySem.W.codeIn K cd_ist "is_step" = true)
    (k_ist : PySem.W.keepIn K (.ref f_ist) = true)
    (a_ir : PySem.W.nsIn K mainGlobals "is_row" = some (some (.ref f_ir)))
    (l_ir : K.lookup f_ir = some ⟨oc_ir, od_ir, .func (PySem.W.fnOf "is_row" "is_row" (defArgs s_is_row) (defBody s_is_row) (defScope s_is_row) .none kV_ir dc_ir pm_ir an_ir cd_ir ct_ir), sl_ir⟩)
    (c_ir : PySem.W.codeIn K cd_ir "is_row" = true)
    (k_ir : PySem.W.keepIn K (.ref f_ir) = true)
    (a_nl : PySem.W.nsIn K mainGlobals "need_like" = some (some (.ref f_nl)))
    (l_nl : K.lookup f_nl = some ⟨oc_nl, od_nl, .func (PySem.W.fnOf "need_like" "need_like" (defArgs s_need_like) (defBody s_need_like) (defScope s_need_like) .none kV_nl dc_nl pm_nl an_nl cd_nl ct_nl), sl_nl⟩)
    (c_nl : PySem.W.codeIn K cd_nl "need_like" = true)
    (k_nl : PySem.W.keepIn K (.ref f_nl) = true)
    (a_pr : PySem.W.nsIn K mainGlobals "parting_row" = some (some (.ref f_pr)))
    (l_pr : K.lookup f_pr = some ⟨oc_pr, od_pr, .func (PySem.W.fnOf "parting_row" "parting_row" (defArgs s_parting_row) (defBody s_parting_row) (defScope s_parting_row) .none kV_pr dc_pr pm_pr an_pr cd_pr ct_pr), sl_pr⟩)
    (c_pr : PySem.W.codeIn K cd_pr "parting_row" = true)
    (k_pr : PySem.W.keepIn K (.ref f_pr) = true)
    (a_ss : PySem.W.nsIn K mainGlobals "say_same" = some (some (.ref f_ss)))
    (l_ss : K.lookup f_ss = some ⟨oc_ss, od_ss, .func (PySem.W.fnOf "say_same" "say_same" (defArgs s_say_same) (defBody s_say_same) (defScope s_say_same) .none kV_ss dc_ss pm_ss an_ss cd_ss ct_ss), sl_ss⟩)
    (c_ss : PySem.W.codeIn K cd_ss "say_same" = true)
    (k_ss : PySem.W.keepIn K (.ref f_ss) = true)
    (a_pb : PySem.W.nsIn K mainGlobals "pair_behind" = some (some (.ref f_pb)))
    (l_pb : K.lookup f_pb = some ⟨oc_pb, od_pb, .func (PySem.W.fnOf "pair_behind" "pair_behind" (defArgs s_pair_behind) (defBody s_pair_behind) (defScope s_pair_behind) .none kV_pb dc_pb pm_pb an_pb cd_pb ct_pb), sl_pb⟩)
    (c_pb : PySem.W.codeIn K cd_pb "pair_behind" = true)
    (k_pb : PySem.W.keepIn K (.ref f_pb) = true)
    (a_ps : PySem.W.nsIn K mainGlobals "pairs" = some (some (.ref f_ps)))
    (l_ps : K.lookup f_ps = some ⟨oc_ps, od_ps, .func (PySem.W.fnOf "pairs" "pairs" (defArgs s_pairs) (defBody s_pairs) (defScope s_pairs) .none kV_ps dc_ps pm_ps an_ps cd_ps ct_ps), sl_ps⟩)
    (c_ps : PySem.W.codeIn K cd_ps "pairs" = true)
    (k_ps : PySem.W.keepIn K (.ref f_ps) = true)
    (a_ip : PySem.W.nsIn K mainGlobals "is_pair" = some (some (.ref f_ip)))
    (l_ip : K.lookup f_ip = some ⟨oc_ip, od_ip, .func (PySem.W.fnOf "is_pair" "is_pair" (defArgs s_is_pair) (defBody s_is_pair) (defScope s_is_pair) .none kV_ip dc_ip pm_ip an_ip cd_ip ct_ip), sl_ip⟩)
    (c_ip : PySem.W.codeIn K cd_ip "is_pair" = true)
    (k_ip : PySem.W.keepIn K (.ref f_ip) = true)
    (a_ap : PySem.W.nsIn K mainGlobals "are_pairs" = some (some (.ref f_ap)))
    (l_ap : K.lookup f_ap = some ⟨oc_ap, od_ap, .func (PySem.W.fnOf "are_pairs" "are_pairs" (defArgs s_are_pairs) (defBody s_are_pairs) (defScope s_are_pairs) .none kV_ap dc_ap pm_ap an_ap cd_ap ct_ap), sl_ap⟩)
    (c_ap : PySem.W.codeIn K cd_ap "are_pairs" = true)
    (k_ap : PySem.W.keepIn K (.ref f_ap) = true)
    (a_lbag : PySem.W.nsIn K mainGlobals "_law_bag" = some (some (.ref f_lbag)))
    (l_lbag : K.lookup f_lbag = some ⟨oc_lbag, od_lbag, .func (PySem.W.fnOf "_law_bag" "_law_bag" (defArgs s_Lbag) (defBody s_Lbag) (defScope s_Lbag) .none kV_lbag dc_lbag pm_lbag an_lbag cd_lbag ct_lbag), sl_lbag⟩)
    (c_lbag : PySem.W.codeIn K cd_lbag "_law_bag" = true)
    (k_lbag : PySem.W.keepIn K (.ref f_lbag) = true)
    (a_ltk : PySem.W.nsIn K mainGlobals "_law_take" = some (some (.ref f_ltk)))
    (l_ltk : K.lookup f_ltk = some ⟨oc_ltk, od_ltk, .func (PySem.W.fnOf "_law_take" "_law_take" (defArgs s_Ltake) (defBody s_Ltake) (defScope s_Ltake) .none kV_ltk dc_ltk pm_ltk an_ltk cd_ltk ct_ltk), sl_ltk⟩)
    (c_ltk : PySem.W.codeIn K cd_ltk "_law_take" = true)
    (k_ltk : PySem.W.keepIn K (.ref f_ltk) = true)
    (a_lone : PySem.W.nsIn K mainGlobals "_law_one" = some (some (.ref f_lone)))
    (l_lone : K.lookup f_lone = some ⟨oc_lone, od_lone, .func (PySem.W.fnOf "_law_one" "_law_one" (defArgs s_Lone) (defBody s_Lone) (defScope s_Lone) .none kV_lone dc_lone pm_lone an_lone cd_lone ct_lone), sl_lone⟩)
    (c_lone : PySem.W.codeIn K cd_lone "_law_one" = true)
    (k_lone : PySem.W.keepIn K (.ref f_lone) = true)
    (a_lmx : PySem.W.nsIn K mainGlobals "_law_mixed" = some (some (.ref f_lmx)))
    (l_lmx : K.lookup f_lmx = some ⟨oc_lmx, od_lmx, .func (PySem.W.fnOf "_law_mixed" "_law_mixed" (defArgs s_Lmixed) (defBody s_Lmixed) (defScope s_Lmixed) .none kV_lmx dc_lmx pm_lmx an_lmx cd_lmx ct_lmx), sl_lmx⟩)
    (c_lmx : PySem.W.codeIn K cd_lmx "_law_mixed" = true)
    (k_lmx : PySem.W.keepIn K (.ref f_lmx) = true)
    (a_lal : PySem.W.nsIn K mainGlobals "_law_alike" = some (some (.ref f_lal)))
    (l_lal : K.lookup f_lal = some ⟨oc_lal, od_lal, .func (PySem.W.fnOf "_law_alike" "_law_alike" (defArgs s_Lalike) (defBody s_Lalike) (defScope s_Lalike) .none kV_lal dc_lal pm_lal an_lal cd_lal ct_lal), sl_lal⟩)
    (c_lal : PySem.W.codeIn K cd_lal "_law_alike" = true)
    (k_lal : PySem.W.keepIn K (.ref f_lal) = true)
    (a_lwh : PySem.W.nsIn K mainGlobals "_law_is_whole" = some (some (.ref f_lwh)))
    (l_lwh : K.lookup f_lwh = some ⟨oc_lwh, od_lwh, .func (PySem.W.fnOf "_law_is_whole" "_law_is_whole" (defArgs s_Lis_whole) (defBody s_Lis_whole) (defScope s_Lis_whole) .none kV_lwh dc_lwh pm_lwh an_lwh cd_lwh ct_lwh), sl_lwh⟩)
    (c_lwh : PySem.W.codeIn K cd_lwh "_law_is_whole" = true)
    (k_lwh : PySem.W.keepIn K (.ref f_lwh) = true)
    (a_lod : PySem.W.nsIn K mainGlobals "_law_odd" = some (some (.ref f_lod)))
    (l_lod : K.lookup f_lod = some ⟨oc_lod, od_lod, .func (PySem.W.fnOf "_law_odd" "_law_odd" (defArgs s_Lodd) (defBody s_Lodd) (defScope s_Lodd) .none kV_lod dc_lod pm_lod an_lod cd_lod ct_lod), sl_lod⟩)
    (c_lod : PySem.W.codeIn K cd_lod "_law_odd" = true)
    (k_lod : PySem.W.keepIn K (.ref f_lod) = true)
    (a_lnm : PySem.W.nsIn K mainGlobals "_law_names" = some (some (.ref f_lnm)))
    (l_lnm : K.lookup f_lnm = some ⟨oc_lnm, od_lnm, .func (PySem.W.fnOf "_law_names" "_law_names" (defArgs s_Lnames) (defBody s_Lnames) (defScope s_Lnames) .none kV_lnm dc_lnm pm_lnm an_lnm cd_lnm ct_lnm), sl_lnm⟩)
    (c_lnm : PySem.W.codeIn K cd_lnm "_law_names" = true)
    (k_lnm : PySem.W.keepIn K (.ref f_lnm) = true)
    (a_lru : PySem.W.nsIn K mainGlobals "_law_rules" = some (some (.ref f_lru)))
    (l_lru : K.lookup f_lru = some ⟨oc_lru, od_lru, .func (PySem.W.fnOf "_law_rules" "_law_rules" (defArgs s_Lrules) (defBody s_Lrules) (defScope s_Lrules) .none kV_lru dc_lru pm_lru an_lru cd_lru ct_lru), sl_lru⟩)
    (c_lru : PySem.W.codeIn K cd_lru "_law_rules" = true)
    (k_lru : PySem.W.keepIn K (.ref f_lru) = true)
    (a_lnr : PySem.W.nsIn K mainGlobals "_law_near_rules" = some (some (.ref f_lnr)))
    (l_lnr : K.lookup f_lnr = some ⟨oc_lnr, od_lnr, .func (PySem.W.fnOf "_law_near_rules" "_law_near_rules" (defArgs s_Lnear_rules) (defBody s_Lnear_rules) (defScope s_Lnear_rules) .none kV_lnr dc_lnr pm_lnr an_lnr cd_lnr ct_lnr), sl_lnr⟩)
    (c_lnr : PySem.W.codeIn K cd_lnr "_law_near_rules" = true)
    (k_lnr : PySem.W.keepIn K (.ref f_lnr) = true)
    (a_ldb : PySem.W.nsIn K mainGlobals "_law_doubled" = some (some (.ref f_ldb)))
    (l_ldb : K.lookup f_ldb = some ⟨oc_ldb, od_ldb, .func (PySem.W.fnOf "_law_doubled" "_law_doubled" (defArgs s_Ldoubled) (defBody s_Ldoubled) (defScope s_Ldoubled) .none kV_ldb dc_ldb pm_ldb an_ldb cd_ldb ct_ldb), sl_ldb⟩)
    (c_ldb : PySem.W.codeIn K cd_ldb "_law_doubled" = true)
    (k_ldb : PySem.W.keepIn K (.ref f_ldb) = true)
    (a_lmt : PySem.W.nsIn K mainGlobals "_law_met" = some (some (.ref f_lmt)))
    (l_lmt : K.lookup f_lmt = some ⟨oc_lmt, od_lmt, .func (PySem.W.fnOf "_law_met" "_law_met" (defArgs s_Lmet) (defBody s_Lmet) (defScope s_Lmet) .none kV_lmt dc_lmt pm_lmt an_lmt cd_lmt ct_lmt), sl_lmt⟩)
    (c_lmt : PySem.W.codeIn K cd_lmt "_law_met" = true)
    (k_lmt : PySem.W.keepIn K (.ref f_lmt) = true)
    (a_lfw : PySem.W.nsIn K mainGlobals "_law_fewest" = some (some (.ref f_lfw)))
    (l_lfw : K.lookup f_lfw = some ⟨oc_lfw, od_lfw, .func (PySem.W.fnOf "_law_fewest" "_law_fewest" (defArgs s_Lfewest) (defBody s_Lfewest) (defScope s_Lfewest) .none kV_lfw dc_lfw pm_lfw an_lfw cd_lfw ct_lfw), sl_lfw⟩)
    (c_lfw : PySem.W.codeIn K cd_lfw "_law_fewest" = true)
    (k_lfw : PySem.W.keepIn K (.ref f_lfw) = true)
    (a_lou : PySem.W.nsIn K mainGlobals "_law_or_unlike" = some (some (.ref f_lou)))
    (l_lou : K.lookup f_lou = some ⟨oc_lou, od_lou, .func (PySem.W.fnOf "_law_or_unlike" "_law_or_unlike" (defArgs s_Lor) (defBody s_Lor) (defScope s_Lor) .none kV_lou dc_lou pm_lou an_lou cd_lou ct_lou), sl_lou⟩)
    (c_lou : PySem.W.codeIn K cd_lou "_law_or_unlike" = true)
    (k_lou : PySem.W.keepIn K (.ref f_lou) = true)
    (a_lip : PySem.W.nsIn K mainGlobals "_law_is_pair" = some (some (.ref f_lip)))
    (l_lip : K.lookup f_lip = some ⟨oc_lip, od_lip, .func (PySem.W.fnOf "_law_is_pair" "_law_is_pair" (defArgs s_Lis_pair) (defBody s_Lis_pair) (defScope s_Lis_pair) .none kV_lip dc_lip pm_lip an_lip cd_lip ct_lip), sl_lip⟩)
    (c_lip : PySem.W.codeIn K cd_lip "_law_is_pair" = true)
    (k_lip : PySem.W.keepIn K (.ref f_lip) = true)
    (a_lac : PySem.W.nsIn K mainGlobals "_law_are_closed" = some (some (.ref f_lac)))
    (l_lac : K.lookup f_lac = some ⟨oc_lac, od_lac, .func (PySem.W.fnOf "_law_are_closed" "_law_are_closed" (defArgs s_Lare_closed) (defBody s_Lare_closed) (defScope s_Lare_closed) .none kV_lac dc_lac pm_lac an_lac cd_lac ct_lac), sl_lac⟩)
    (c_lac : PySem.W.codeIn K cd_lac "_law_are_closed" = true)
    (k_lac : PySem.W.keepIn K (.ref f_lac) = true)
    (a_lab : PySem.W.nsIn K mainGlobals "_law_all_behind" = some (some (.ref f_lab)))
    (l_lab : K.lookup f_lab = some ⟨oc_lab, od_lab, .func (PySem.W.fnOf "_law_all_behind" "_law_all_behind" (defArgs s_Lall_behind) (defBody s_Lall_behind) (defScope s_Lall_behind) .none kV_lab dc_lab pm_lab an_lab cd_lab ct_lab), sl_lab⟩)
    (c_lab : PySem.W.codeIn K cd_lab "_law_all_behind" = true)
    (k_lab : PySem.W.keepIn K (.ref f_lab) = true)
    (a_lbt : PySem.W.nsIn K mainGlobals "_law_bent" = some (some (.ref f_lbt)))
    (l_lbt : K.lookup f_lbt = some ⟨oc_lbt, od_lbt, .func (PySem.W.fnOf "_law_bent" "_law_bent" (defArgs s_Lbent) (defBody s_Lbent) (defScope s_Lbent) .none kV_lbt dc_lbt pm_lbt an_lbt cd_lbt ct_lbt), sl_lbt⟩)
    (c_lbt : PySem.W.codeIn K cd_lbt "_law_bent" = true)
    (k_lbt : PySem.W.keepIn K (.ref f_lbt) = true)
    (a_law : PySem.W.nsIn K mainGlobals "law" = some (some (.ref f_law)))
    (l_law : K.lookup f_law = some ⟨oc_law, od_law, .func (PySem.W.fnOf "law" "law" (defArgs s_law) (defBody s_law) (defScope s_law) .none kV_law dc_law pm_law an_law cd_law ct_law), sl_law⟩)
    (c_law : PySem.W.codeIn K cd_law "law" = true)
    (k_law : PySem.W.keepIn K (.ref f_law) = true)
    (a_mi : PySem.W.findIn K (.ref C) "__init__" = some (some (.ref f_mi)))
    (l_mi : K.lookup f_mi = some ⟨oc_mi, od_mi, .func (PySem.W.fnOf "__init__" "Machine.__init__" (defArgs s_Minit) (defBody s_Minit) (defScope s_Minit) .none kV_mi dc_mi pm_mi an_mi cd_mi ct_mi), sl_mi⟩)
    (c_mi : PySem.W.codeIn K cd_mi "Machine.__init__" = true)
    (k_mi : PySem.W.keepIn K (.ref f_mi) = true)
    (i_mi : PySem.W.isFn K (.ref f_mi) = true)
    (a_ml : PySem.W.findIn K (.ref C) "__len__" = some (some (.ref f_ml)))
    (l_ml : K.lookup f_ml = some ⟨oc_ml, od_ml, .func (PySem.W.fnOf "__len__" "Machine.__len__" (defArgs s_Mlen) (defBody s_Mlen) (defScope s_Mlen) .none kV_ml dc_ml pm_ml an_ml cd_ml ct_ml), sl_ml⟩)
    (c_ml : PySem.W.codeIn K cd_ml "Machine.__len__" = true)
    (k_ml : PySem.W.keepIn K (.ref f_ml) = true)
    (i_ml : PySem.W.isFn K (.ref f_ml) = true)
    (a_mp : PySem.W.findIn K (.ref C) "inputs" = some (some (.ref f_mp)))
    (l_mp : K.lookup f_mp = some ⟨oc_mp, od_mp, .func (PySem.W.fnOf "inputs" "Machine.inputs" (defArgs s_Minputs) (defBody s_Minputs) (defScope s_Minputs) .none kV_mp dc_mp pm_mp an_mp cd_mp ct_mp), sl_mp⟩)
    (c_mp : PySem.W.codeIn K cd_mp "Machine.inputs" = true)
    (k_mp : PySem.W.keepIn K (.ref f_mp) = true)
    (i_mp : PySem.W.isFn K (.ref f_mp) = true)
    (a_ms : PySem.W.findIn K (.ref C) "step" = some (some (.ref f_ms)))
    (l_ms : K.lookup f_ms = some ⟨oc_ms, od_ms, .func (PySem.W.fnOf "step" "Machine.step" (defArgs s_Mstep) (defBody s_Mstep) (defScope s_Mstep) .none kV_ms dc_ms pm_ms an_ms cd_ms ct_ms), sl_ms⟩)
    (c_ms : PySem.W.codeIn K cd_ms "Machine.step" = true)
    (k_ms : PySem.W.keepIn K (.ref f_ms) = true)
    (i_ms : PySem.W.isFn K (.ref f_ms) = true)
    (z_len : PySem.W.nsIn K mainGlobals "len" = some none)
    (z_int : PySem.W.nsIn K mainGlobals "int" = some none)
    (z_range : PySem.W.nsIn K mainGlobals "range" = some none)
    (z_abs : PySem.W.nsIn K mainGlobals "abs" = some none)
    (z_sorted : PySem.W.nsIn K mainGlobals "sorted" = some none)
    (z_set : PySem.W.nsIn K mainGlobals "set" = some none)
    (z_tuple : PySem.W.nsIn K mainGlobals "tuple" = some none)
    (z_list : PySem.W.nsIn K mainGlobals "list" = some none)
    (z_dict : PySem.W.nsIn K mainGlobals "dict" = some none)
    (z_repr : PySem.W.nsIn K mainGlobals "repr" = some none)
    (z_isinstance : PySem.W.nsIn K mainGlobals "isinstance" = some none)
    (z_all : PySem.W.nsIn K mainGlobals "all" = some none)
    (z_any : PySem.W.nsIn K mainGlobals "any" = some none)
    (z_bool : PySem.W.nsIn K mainGlobals "bool" = some none)
    (z_str : PySem.W.nsIn K mainGlobals "str" = some none)
    (z_super : PySem.W.nsIn K mainGlobals "super" = some none)
    (gl : PySem.W.nsIn K mainGlobals "LETTERS" = some (some (.str lettersZ tl)))
    (go : PySem.W.nsIn K mainGlobals "LONGEST" = some (some (.int 8 to)))
    (gw : PySem.W.nsIn K mainGlobals "WORDS" = some (some (.ref wa)))
    (gwl : K.lookup wa = some ⟨.type "tuple", wd, .seq #[.str "alike" w1, .str "go" w2, .str "if" w3, .str "no" w4, .str "tell" w5, .str "unlike" w6, .str "with" w7, .str "yes" w8] wn, wsl⟩)
    (pg : PySem.W.plainGet K C Str.empty = true)
    (ic : PySem.W.isClsIn K C = true)
    (po : PySem.W.plainOver K C = true)
    (sa : PySem.W.findIn K (.ref C) "__setattr__" = some (some (.builtin "object.__setattr__")))
    (mk : PySem.W.makesIn K C = true)
    (kC : PySem.W.keepIn K (.ref C) = true)
    (s1a : PySem.W.findIn K (.ref C) "its_inputs" = some (some (.ref p1)))
    (s1g : PySem.W.specialIn K (.ref p1) "__get__" = some (some (.builtin "member_descriptor.__get__")))
    (s1t : PySem.W.takesIn K (.ref p1) = some true)
    (s1y : PySem.W.typeIn K (.ref p1) = some (.type "member_descriptor"))
    (s1i : PySem.W.slotIn K p1 C = some 0)
    (s2a : PySem.W.findIn K (.ref C) "its_rules" = some (some (.ref p2)))
    (s2g : PySem.W.specialIn K (.ref p2) "__get__" = some (some (.builtin "member_descriptor.__get__")))
    (s2t : PySem.W.takesIn K (.ref p2) = some true)
    (s2y : PySem.W.typeIn K (.ref p2) = some (.type "member_descriptor"))
    (s2i : PySem.W.slotIn K p2 C = some 1)
    (ca : PySem.W.findIn K (.ref C) "__class__" = some (some (.builtin "object.__class__")))
    (cn : PySem.W.specialIn K (.builtin "object.__class__") "__get__" = some (some (.builtin "getset_descriptor.__get__")))
    (ct : PySem.W.takesIn K (.builtin "object.__class__") = some true)
    (cm : PySem.W.mroIn K C (.type "object") = some true)
    (cl : PySem.W.subIn K (.ref C) (.type "list") = some false)
    (uk : PySem.W.keepIn K (.ref U) = true)
    (ub : PySem.W.subIn K (.ref U) (.type "BaseException") = some true)
    (ut : PySem.W.typeIn K (.ref U) = some (.type "type"))
    (ui : PySem.W.excInitIn K U veTail "ValueError.__new__" = true)
    (ul : PySem.W.findIn K (.ref U) "__init__" = some (some (.ref fU)))
    (utI : PySem.W.typeIn K (.ref fU) = some (.type "function"))
    (us : PySem.W.ks_superIn K U U "__init__" = some (some (.builtin "ValueError.__init__")))
    (uv : PySem.W.subIn K (.ref U) (.type "ValueError") = some true)
    (um : PySem.W.mroIn K U (.ref U) = some true)
    (uth : PySem.W.nsIn K cStatics "thirdparty.any" = some none)
    (ulf : K.lookup fU = some ⟨ocU, odU, .func (PySem.W.ksFn "__init__" "Unlike.__init__" (defArgs s_Uinit) (defBody s_Uinit) (defScope s_Uinit) .none .none dcU pmU anU (.ref cdaU) ctU ccU), slU⟩)
    (ucd : PySem.W.codeIn K (.ref cdaU) "Unlike.__init__" = true)
    (ulc : K.lookup cdaU = some ⟨cclU, cddU, .fields vsU, ccsU⟩)
    (uvs : vsU[2]? = some (.str fileU tfU))
    (ufl : ((P.main.file : Str) == fileU) = true)
    (ucc : K.lookup ccU = some ⟨clU, cldU, .cell (some (.ref U)), cslU⟩)
    (utop : (P.main.scope.names.lookup ("super" : Str)).isSome = false)
    (uga : PySem.W.findIn K (.ref U) "__getattribute__" = some (some (.builtin "BaseException.__getattribute__")))
    (ugt : PySem.W.findIn K (.ref U) "__getattr__" = some none)
    (uhd : PySem.W.hasDictIn K U = true)
    (uca : PySem.W.findIn K (.ref U) "__class__" = some (some (.builtin "object.__class__")))
    (umo : PySem.W.mroIn K U (.type "object") = some true)
    (kb : PySem.W.subIn K (.ref KE) (.type "BaseException") = some true)
    (kh : PySem.W.hasDictIn K KE = true)
    (kt : PySem.W.typeIn K (.ref KE) = some (.type "type"))
    (ks : PySem.W.subIn K (.ref U) (.ref KE) = some true)
    (hcd : cd_law = .ref c)
    (hch : PySem.W.codeHdIn K c Pt = true)
    (hPt : h.get? Pt = some { cls := .none, data := .fields #[] })
    (hPn : K.lookup Pt = none)
    : LawAtG l w K 9 63 "_law_script" mg fa h := by
  subst hP
  have e := hfa.symm.trans (PySem.W.mg_of X G a_law)
  cases e
  subst hcd
  have T : Bi mg := ⟨PySem.W.mg_none_of X G z_len, PySem.W.mg_none_of X G z_int, PySem.W.mg_none_of X G z_range, PySem.W.mg_none_of X G z_abs, PySem.W.mg_none_of X G z_sorted, PySem.W.mg_none_of X G z_set, PySem.W.mg_none_of X G z_tuple, PySem.W.mg_none_of X G z_list, PySem.W.mg_none_of X G z_dict, PySem.W.mg_none_of X G z_repr, PySem.W.mg_none_of X G z_isinstance, PySem.W.mg_none_of X G z_all, PySem.W.mg_none_of X G z_any, PySem.W.mg_none_of X G z_bool, PySem.W.mg_none_of X G z_str⟩
  have GB : Gb K mg := ⟨⟨_, PySem.W.mg_of X G gl⟩, ⟨_, PySem.W.mg_of X G go⟩, ⟨_, PySem.W.mg_of X G gw, fun H => .inr ⟨_, _, _, gwl, rfl, rfl, by show 8 ≤ sizeLine; decide, .cons ⟨_, rfl⟩ (.cons ⟨_, rfl⟩ (.cons ⟨_, rfl⟩ (.cons ⟨_, rfl⟩ (.cons ⟨_, rfl⟩ (.cons ⟨_, rfl⟩ (.cons ⟨_, rfl⟩ (.cons ⟨_, rfl⟩ .nil)))))))⟩⟩⟩
  have MC : Mc K mg C := ⟨⟨pg, ic, po, sa⟩, PySem.W.mg_of X G aC, ⟨p1, s1a, s1g, s1t, s1y, s1i, by decide⟩, ⟨p2, s2a, s2g, s2t, s2y, s2i, by decide⟩⟩
  have F_ii := fun_mk (st := s_is_integer) l_ii c_ii k_ii
  have F_inm := fun_mk (st := s_is_name) l_inm c_inm k_inm
  have F_ai := fun_mk (st := s_are_inputs) l_ai c_ai k_ai
  have F_ist := fun_mk (st := s_is_step) l_ist c_ist k_ist
  have F_ir := fun_mk (st := s_is_row) l_ir c_ir k_ir
  have F_nl := fun_mk (st := s_need_like) l_nl c_nl k_nl
  have F_pr := fun_mk (st := s_parting_row) l_pr c_pr k_pr
  have F_ss := fun_mk (st := s_say_same) l_ss c_ss k_ss
  have F_pb := fun_mk (st := s_pair_behind) l_pb c_pb k_pb
  have F_ps := fun_mk (st := s_pairs) l_ps c_ps k_ps
  have F_ip := fun_mk (st := s_is_pair) l_ip c_ip k_ip
  have F_ap := fun_mk (st := s_are_pairs) l_ap c_ap k_ap
  have F_lbag := fun_mk (st := s_Lbag) l_lbag c_lbag k_lbag
  have F_ltk := fun_mk (st := s_Ltake) l_ltk c_ltk k_ltk
  have F_lone := fun_mk (st := s_Lone) l_lone c_lone k_lone
  have F_lmx := fun_mk (st := s_Lmixed) l_lmx c_lmx k_lmx
  have F_lal := fun_mk (st := s_Lalike) l_lal c_lal k_lal
  have F_lwh := fun_mk (st := s_Lis_whole) l_lwh c_lwh k_lwh
  have F_lod := fun_mk (st := s_Lodd) l_lod c_lod k_lod
  have F_lnm := fun_mk (st := s_Lnames) l_lnm c_lnm k_lnm
  have F_lru := fun_mk (st := s_Lrules) l_lru c_lru k_lru
  have F_lnr := fun_mk (st := s_Lnear_rules) l_lnr c_lnr k_lnr
  have F_ldb := fun_mk (st := s_Ldoubled) l_ldb c_ldb k_ldb
  have F_lmt := fun_mk (st := s_Lmet) l_lmt c_lmt k_lmt
  have F_lfw := fun_mk (st := s_Lfewest) l_lfw c_lfw k_lfw
  have F_lou := fun_mk (st := s_Lor) l_lou c_lou k_lou
  have F_lip := fun_mk (st := s_Lis_pair) l_lip c_lip k_lip
  have F_lac := fun_mk (st := s_Lare_closed) l_lac c_lac k_lac
  have F_lab := fun_mk (st := s_Lall_behind) l_lab c_lab k_lab
  have F_lbt := fun_mk (st := s_Lbent) l_lbt c_lbt k_lbt
  have F_law := fun_mk (st := s_law) l_law c_law k_law
  have F_mi := fun_mk (st := s_Minit) l_mi c_mi k_mi
  have F_ml := fun_mk (st := s_Mlen) l_ml c_ml k_ml
  have F_mp := fun_mk (st := s_Minputs) l_mp c_mp k_mp
  have F_ms := fun_mk (st := s_Mstep) l_ms c_ms k_ms
  have b_ii := F_ii.binds (ps := ["thing"]) fun _ _ _ _ _ _ us hl => match us, hl with | [_], _ => rfl
  have b_inm := F_inm.binds (ps := ["thing"]) fun _ _ _ _ _ _ us hl => match us, hl with | [_], _ => rfl
  have b_ai := F_ai.binds (ps := ["thing"]) fun _ _ _ _ _ _ us hl => match us, hl with | [_], _ => rfl
  have b_ist := F_ist.binds (ps := ["thing", "many"]) fun _ _ _ _ _ _ us hl => match us, hl with | [_, _], _ => rfl
  have b_ir := F_ir.binds (ps := ["inputs", "thing", "many"]) fun _ _ _ _ _ _ us hl => match us, hl with | [_, _, _], _ => rfl
  have b_nl := F_nl.binds (ps := ["machines"]) fun _ _ _ _ _ _ us hl => match us, hl with | [_], _ => rfl
  have b_pr := F_pr.binds (ps := ["one", "other"]) fun _ _ _ _ _ _ us hl => match us, hl with | [_, _], _ => rfl
  have b_ss := F_ss.binds (ps := ["one", "other"]) fun _ _ _ _ _ _ us hl => match us, hl with | [_, _], _ => rfl
  have b_pb := F_pb.binds (ps := ["one", "other", "pair", "name"]) fun _ _ _ _ _ _ us hl => match us, hl with | [_, _, _, _], _ => rfl
  have b_ps := F_ps.binds (ps := ["one", "other"]) fun _ _ _ _ _ _ us hl => match us, hl with | [_, _], _ => rfl
  have b_ip := F_ip.binds (ps := ["one", "other", "thing"]) fun _ _ _ _ _ _ us hl => match us, hl with | [_, _, _], _ => rfl
  have b_ap := F_ap.binds (ps := ["one", "other", "thing"]) fun _ _ _ _ _ _ us hl => match us, hl with | [_, _, _], _ => rfl
  have b_lbag := F_lbag.binds (ps := ["_law_script"]) fun _ _ _ _ _ _ us hl => match us, hl with | [_], _ => rfl
  have b_ltk := F_ltk.binds (ps := ["_law_bag_here", "_law_upto"]) fun _ _ _ _ _ _ us hl => match us, hl with | [_, _], _ => rfl
  have b_lone := F_lone.binds (ps := ["_law_bag_here", "_law_some"]) fun _ _ _ _ _ _ us hl => match us, hl with | [_, _], _ => rfl
  have b_lmx := F_lmx.binds (ps := ["_law_bag_here", "_law_items"]) fun _ _ _ _ _ _ us hl => match us, hl with | [_, _], _ => rfl
  have b_lal := F_lal.binds (ps := ["_law_found", "_law_due"]) fun _ _ _ _ _ _ us hl => match us, hl with | [_, _], _ => rfl
  have b_lwh := F_lwh.binds (ps := ["_law_thing"]) fun _ _ _ _ _ _ us hl => match us, hl with | [_], _ => rfl
  have b_lod := F_lod.binds (ps := ["_law_bag_here"]) fun _ _ _ _ _ _ us hl => match us, hl with | [_], _ => rfl
  have b_lnm := F_lnm.binds (ps := ["_law_bag_here", "_law_size"]) fun _ _ _ _ _ _ us hl => match us, hl with | [_, _], _ => rfl
  have b_lru := F_lru.binds (ps := ["_law_bag_here", "_law_inputs", "_law_size", "_law_outs"]) fun _ _ _ _ _ _ us hl => match us, hl with | [_, _, _, _], _ => rfl
  have b_lnr := F_lnr.binds (ps := ["_law_bag_here", "_law_rules_here", "_law_outs"]) fun _ _ _ _ _ _ us hl => match us, hl with | [_, _, _], _ => rfl
  have b_ldb := F_ldb.binds (ps := ["_law_bag_here", "_law_rules_here"]) fun _ _ _ _ _ _ us hl => match us, hl with | [_, _], _ => rfl
  have b_lmt := F_lmt.binds (ps := ["_law_ones"]) fun _ _ _ _ _ _ us hl => match us, hl with | [_], _ => rfl
  have b_lfw := F_lfw.binds (ps := ["_law_rules_here"]) fun _ _ _ _ _ _ us hl => match us, hl with | [_], _ => rfl
  have b_lou := F_lou.binds (ps := ["_law_act"]) fun _ _ _ _ _ _ us hl => match us, hl with | [_], _ => rfl
  have b_lip := F_lip.binds (ps := ["_law_one_here", "_law_other", "_law_thing"]) fun _ _ _ _ _ _ us hl => match us, hl with | [_, _, _], _ => rfl
  have b_lac := F_lac.binds (ps := ["_law_one_here", "_law_other", "_law_thing"]) fun _ _ _ _ _ _ us hl => match us, hl with | [_, _, _], _ => rfl
  have b_lab := F_lab.binds (ps := ["_law_one_here", "_law_other", "_law_some"]) fun _ _ _ _ _ _ us hl => match us, hl with | [_, _, _], _ => rfl
  have b_lbt := F_lbt.binds (ps := ["_law_bag_here", "_law_one_here", "_law_other", "_law_some"]) fun _ _ _ _ _ _ us hl => match us, hl with | [_, _, _, _], _ => rfl
  have b_law := F_law.binds (ps := ["_law_script"]) fun _ _ _ _ _ _ us hl => match us, hl with | [_], _ => rfl
  have b_mi := F_mi.binds (ps := ["self", "inputs", "rules"]) fun _ _ _ _ _ _ us hl => match us, hl with | [_, _, _], _ => rfl
  have b_ml := F_ml.binds (ps := ["self"]) fun _ _ _ _ _ _ us hl => match us, hl with | [_], _ => rfl
  have b_mp := F_mp.binds (ps := ["self"]) fun _ _ _ _ _ _ us hl => match us, hl with | [_], _ => rfl
  have b_ms := F_ms.binds (ps := ["self", "state", "one"]) fun _ _ _ _ _ _ us hl => match us, hl with | [_, _, _], _ => rfl
  have ULU : Ul l.prog K mg "Unlike" "Unlike.__init__" U fU := ⟨PySem.W.mg_of X G aU, uk, ub, ut, ui, ul, utI, us, uv, um, uth, PySem.W.mg_none_of X G z_super, utop, ⟨_, _, _, _, _, _, _, _, _, _, _, _, _, _, _, _, _, _, ulf, ucd, ulc, uvs, ufl, ucc⟩⟩
  have UX : Ux K mg U KE := ⟨PySem.W.mg_of X G aK, PySem.W.mg_of X G aU, PySem.W.exm_ref kb kh kt ks, kit_same, ⟨uga, ugt, ub, uhd, uca, cn, ct, umo⟩⟩
  refine ⟨_, [(c, Pt)], spLaw K Pt, fun p hp => by rw [List.mem_singleton.mp hp]; exact hPt, fun p hp => by rw [List.mem_singleton.mp hp]; exact hPn, fun p hp => by rw [List.mem_singleton.mp hp]; exact PySem.W.codeHd_of_K X hch, fun s u => .of_eq (fd := PySem.W.fnOf "law" "law" (defArgs s_law) (defBody s_law) (defScope s_law) .none kV_law dc_law pm_law an_law (.ref c) ct_law) rfl, fun H a ns _ hT hS => ⟨a, ns, rfl, hS, hT _ (List.mem_singleton.mpr rfl), fun _ => rfl⟩, fun base hK hG sb tb => ?_⟩
  have TB := tb _ (List.mem_singleton.mpr rfl)
  have MM : Mm l.prog w K mg base C := ⟨MC, ⟨_, a_ml, i_ml, Kp.FnOk.r0 (ok_Mlen F_ml T MC) b_ml⟩, ⟨_, ⟨a_mp, i_mp, k_mp⟩, Kp.FnOk.r0 (ok_Minputs F_mp T MC) b_mp⟩, ⟨_, ⟨a_ms, i_ms, k_ms⟩, Kp.FnOk.r0 (ok_Mstep F_ms MC) b_ms⟩⟩
  have MI : Mi K C := ⟨⟨ca, cn, ct, cm⟩, kitC_list cl⟩
  have CII : Cal l.prog w K mg base CX0 1 "is_integer" ["thing"] (spIsInteger K) := ⟨⟨_, _, ok_is_integer F_ii T, PySem.W.mg_of X G a_ii, k_ii, b_ii⟩⟩
  have CIN : Cal l.prog w K mg base CX0 1 "is_name" ["thing"] spIsName := ⟨⟨_, _, ok_is_name F_inm T GB, PySem.W.mg_of X G a_inm, k_inm, b_inm⟩⟩
  have CAI : Cal l.prog w K mg base CX0 2 "are_inputs" ["thing"] (spAreInputs K) := ⟨⟨_, _, ok_are_inputs F_ai T CIN, PySem.W.mg_of X G a_ai, k_ai, b_ai⟩⟩
  have CIS : Cal l.prog w K mg base CX0 2 "is_step" ["thing", "many"] (spIsStep K) := ⟨⟨_, _, ok_is_step F_ist T CIN CII, PySem.W.mg_of X G a_ist, k_ist, b_ist⟩⟩
  have CIR : Cal l.prog w K mg base CX0 3 "is_row" ["inputs", "thing", "many"] (spIsRow K) := ⟨⟨_, _, ok_is_row F_ir T CIN CIS, PySem.W.mg_of X G a_ir, k_ir, b_ir⟩⟩
  have CNL : Cal l.prog w K mg base (L2.CX l.prog w) 2 "need_like" ["machines"] (spNeedLike K C U) := ⟨⟨_, _, ok_need_like F_nl T MM ULU, PySem.W.mg_of X G a_nl, k_nl, b_nl⟩⟩
  have CPR : Cal l.prog w K mg base (L2.CX l.prog w) 3 "parting_row" ["one", "other"] (spParting K C U) := ⟨⟨_, _, ok_parting_row F_pr T MM CNL, PySem.W.mg_of X G a_pr, k_pr, b_pr⟩⟩
  have CSS : Cal l.prog w K mg base (L2.CX l.prog w) 4 "say_same" ["one", "other"] (spSaySame K C U) := ⟨⟨_, _, ok_say_same F_ss CPR, PySem.W.mg_of X G a_ss, k_ss, b_ss⟩⟩
  have CPB : Cal l.prog w K mg base CX0 2 "pair_behind" ["one", "other", "pair", "name"] (spPairBehind K C) := ⟨⟨_, _, ok_pair_behind F_pb MM, PySem.W.mg_of X G a_pb, k_pb, b_pb⟩⟩
  have CPS : Cal l.prog w K mg base (L2.CX l.prog w) 3 "pairs" ["one", "other"] (spPairs K C U) := ⟨⟨_, _, ok_pairs F_ps T MM CPB CNL, PySem.W.mg_of X G a_ps, k_ps, b_ps⟩⟩
  have CIP : Cal l.prog w K mg base CX0 3 "is_pair" ["one", "other", "thing"] (spIsPair K C) := ⟨⟨_, _, ok_is_pair F_ip T MM CII, PySem.W.mg_of X G a_ip, k_ip, b_ip⟩⟩
  have CAP : Cal l.prog w K mg base (L2.CX l.prog w) 4 "are_pairs" ["one", "other", "thing"] (spArePairs K C U) := ⟨⟨_, _, ok_are_pairs F_ap T MM MI CNL CIP CPB, PySem.W.mg_of X G a_ap, k_ap, b_ap⟩⟩
  have CBG : Cal l.prog w K mg base CX0 1 "_law_bag" ["_law_script"] (spBag K) := ⟨⟨_, _, ok_Lbag F_lbag T, PySem.W.mg_of X G a_lbag, k_lbag, b_lbag⟩⟩
  have CTK : Cal l.prog w K mg base CX0 1 "_law_take" ["_law_bag_here", "_law_upto"] spTake := ⟨⟨_, _, ok_take F_ltk T, PySem.W.mg_of X G a_ltk, k_ltk, b_ltk⟩⟩
  have CON : Cal l.prog w K mg base CX0 2 "_law_one" ["_law_bag_here", "_law_some"] (spOne K) := ⟨⟨_, _, ok_one F_lone T CTK, PySem.W.mg_of X G a_lone, k_lone, b_lone⟩⟩
  have CMX : Cal l.prog w K mg base CX0 2 "_law_mixed" ["_law_bag_here", "_law_items"] (spMixed K) := ⟨⟨_, _, ok_mixed F_lmx T CTK, PySem.W.mg_of X G a_lmx, k_lmx, b_lmx⟩⟩
  have CWH : Cal l.prog w K mg base CX0 1 "_law_is_whole" ["_law_thing"] (spIsInteger K) := ⟨⟨_, _, ok_Lis_whole F_lwh T, PySem.W.mg_of X G a_lwh, k_lwh, b_lwh⟩⟩
  have COD : Cal l.prog w K mg base CX0 3 "_law_odd" ["_law_bag_here"] (spOdd K) := ⟨⟨_, _, ok_Lodd F_lod T CTK CON, PySem.W.mg_of X G a_lod, k_lod, b_lod⟩⟩
  have CNM : Cal l.prog w K mg base CX0 2 "_law_names" ["_law_bag_here", "_law_size"] (spNames K) := ⟨⟨_, _, ok_Lnames F_lnm T CTK, PySem.W.mg_of X G a_lnm, k_lnm, b_lnm⟩⟩
  have CRU : Cal l.prog w K mg base CX0 3 "_law_rules" ["_law_bag_here", "_law_inputs", "_law_size", "_law_outs"] (spRules K) := ⟨⟨_, _, ok_Lrules F_lru T CTK CON CMX, PySem.W.mg_of X G a_lru, k_lru, b_lru⟩⟩
  have CNR : Cal l.prog w K mg base CX0 3 "_law_near_rules" ["_law_bag_here", "_law_rules_here", "_law_outs"] (spNear K) := ⟨⟨_, _, ok_Lnear_rules F_lnr T CTK CON, PySem.W.mg_of X G a_lnr, k_lnr, b_lnr⟩⟩
  have CDB : Cal l.prog w K mg base CX0 2 "_law_doubled" ["_law_bag_here", "_law_rules_here"] (spDoubled K) := ⟨⟨_, _, ok_Ldoubled F_ldb T CTK, PySem.W.mg_of X G a_ldb, k_ldb, b_ldb⟩⟩
  have CMT : Cal l.prog w K mg base CX0 1 "_law_met" ["_law_ones"] (spMet K) := ⟨⟨_, _, ok_Lmet F_lmt T, PySem.W.mg_of X G a_lmt, k_lmt, b_lmt⟩⟩
  have CFW : Cal l.prog w K mg base CX0 1 "_law_fewest" ["_law_rules_here"] (spFewest K) := ⟨⟨_, _, ok_Lfewest F_lfw T, PySem.W.mg_of X G a_lfw, k_lfw, b_lfw⟩⟩
  have CLP : Cal l.prog w K mg base CX0 2 "_law_is_pair" ["_law_one_here", "_law_other", "_law_thing"] (spLIsPair K) := ⟨⟨_, _, ok_Lis_pair F_lip T CWH, PySem.W.mg_of X G a_lip, k_lip, b_lip⟩⟩
  have CAC : Cal l.prog w K mg base CX0 3 "_law_are_closed" ["_law_one_here", "_law_other", "_law_thing"] (spLAreClosed K) := ⟨⟨_, _, ok_Lare_closed F_lac T CLP, PySem.W.mg_of X G a_lac, k_lac, b_lac⟩⟩
  have CAB : Cal l.prog w K mg base CX0 1 "_law_all_behind" ["_law_one_here", "_law_other", "_law_some"] (spAllBehind K) := ⟨⟨_, _, ok_Lall_behind F_lab T, PySem.W.mg_of X G a_lab, k_lab, b_lab⟩⟩
  have CBT : Cal l.prog w K mg base CX0 4 "_law_bent" ["_law_bag_here", "_law_one_here", "_law_other", "_law_some"] (spBent K) := ⟨⟨_, _, ok_Lbent F_lbt T CTK CON CMX COD CAB, PySem.W.mg_of X G a_lbt, k_lbt, b_lbt⟩⟩
  have CAL : CalG l.prog w K mg base CX0 1 "_law_alike" ["_law_found", "_law_due"] (spAlike K) := ⟨⟨_, _, ok_Lalike F_lal T sb, PySem.W.mg_of X G a_lal, k_lal, b_lal⟩⟩
  have Z : Env92 l.prog w K mg base C U KE := ⟨T, sb, MM, MI, ⟨f_mi, _, ⟨mk, a_mi, i_mi, kC⟩, ok_Minit F_mi T MC CAI CIR, b_mi⟩, CTK, CON, CNM, CRU, CNR, CDB, CFW, CMT, CAC, CBT, CBG, CAL, CPS, CSS, CAP, ⟨_, _, F_lou, PySem.W.mg_of X G a_lou, b_lou⟩, UX⟩
  exact ok_law F_law Z TB rfl
end Kp

set_option Elab.async false
set_option linter.all false
open PySem PySem.W PyProof.Rows
set_option maxRecDepth 100000 in
set_option maxHeartbeats 0 in
theorem PySem.Challenge.cw_answerskept_k92_pairs_of_machines_holds : PySem.Challenge.rw_answerskept_k92_pairs_of_machines.Holds := by
  w_on; o_law; k_head; (case hw => w_witness2)
  k_fill
  refine Kp.walk_G (l := PySem.Challenge.rw_answerskept_k92_pairs_of_machines) (n := 63) (k := 9) (x := "_law_script") rfl (by decide) rfl ⟨rfl, by decide, by decide⟩ rfl (fun w h Y => PySem.W.km_in_of Y) ?F
  case F =>
    intro w mg fa h Y KX G hmg
    refine' Kp.all_mk (Pt := 327) (P := PySem.Challenge.pw_answerskept_k92_pairs_of_machines) rfl KX G hmg ?aC ?aU ?aK ?a_ii ?l_ii ?c_ii ?k_ii ?a_inm ?l_inm ?c_inm ?k_inm ?a_ai ?l_ai ?c_ai ?k_ai ?a_ist ?l_ist ?c_ist ?k_ist ?a_ir ?l_ir ?c_ir ?k_ir ?a_nl ?l_nl ?c_nl ?k_nl ?a_pr ?l_pr ?c_pr ?k_pr ?a_ss ?l_ss ?c_ss ?k_ss ?a_pb ?l_pb ?c_pb ?k_pb ?a_ps ?l_ps ?c_ps ?k_ps ?a_ip ?l_ip ?c_ip ?k_ip ?a_ap ?l_ap ?c_ap ?k_ap ?a_lbag ?l_lbag ?c_lbag ?k_lbag ?a_ltk ?l_ltk ?c_ltk ?k_ltk ?a_lone ?l_lone ?c_lone ?k_lone ?a_lmx ?l_lmx ?c_lmx ?k_lmx ?a_lal ?l_lal ?c_lal ?k_lal ?a_lwh ?l_lwh ?c_lwh ?k_lwh ?a_lod ?l_lod ?c_lod ?k_lod ?a_lnm ?l_lnm ?c_lnm ?k_lnm ?a_lru ?l_lru ?c_lru ?k_lru ?a_lnr ?l_lnr ?c_lnr ?k_lnr ?a_ldb ?l_ldb ?c_ldb ?k_ldb ?a_lmt ?l_lmt ?c_lmt ?k_lmt ?a_lfw ?l_lfw ?c_lfw ?k_lfw ?a_lou ?l_lou ?c_lou ?k_lou ?a_lip ?l_lip ?c_lip ?k_lip ?a_lac ?l_lac ?c_lac ?k_lac ?a_lab ?l_lab ?c_lab ?k_lab ?a_lbt ?l_lbt ?c_lbt ?k_lbt ?a_law ?l_law ?c_law ?k_law ?a_mi ?l_mi ?c_mi ?k_mi ?i_mi ?a_ml ?l_ml ?c_ml ?k_ml ?i_ml ?a_mp ?l_mp ?c_mp ?k_mp ?i_mp ?a_ms ?l_ms ?c_ms ?k_ms ?i_ms ?z_len ?z_int ?z_range ?z_abs ?z_sorted ?z_set ?z_tuple ?z_list ?z_dict ?z_repr ?z_isinstance ?z_all ?z_any ?z_bool ?z_str ?z_super ?gl ?go ?gw ?gwl ?pg ?ic ?po ?sa ?mk ?kC ?s1a ?s1g ?s1t ?s1y ?s1i ?s2a ?s2g ?s2t ?s2y ?s2i ?ca ?cn ?ct ?cm ?cl ?uk ?ub ?ut ?ui ?ul ?utI ?us ?uv ?um ?uth ?ulf ?ucd ?ulc ?uvs ?ufl ?ucc ?utop ?uga ?ugt ?uhd ?uca ?umo ?kb ?kh ?kt ?ks ?hcd ?hch ?hPt ?hPn
    (case aC => k_is)
    (case aU => k_is)
    (case aK => k_is)
    (case a_ii => k_is)
    (case l_ii => k_is)
    (case c_ii => k_is)
    (case k_ii => k_is)
    (case a_inm => k_is)
    (case l_inm => k_is)
    (case c_inm => k_is)
    (case k_inm => k_is)
    (case a_ai => k_is)
    (case l_ai => k_is)
    (case c_ai => k_is)
    (case k_ai => k_is)
    (case a_ist => k_is)
    (case l_ist => k_is)
    (case c_ist => k_is)
    (case k_ist => k_is)
    (case a_ir => k_is)
    (case l_ir => k_is)
    (case c_ir => k_is)
    (case k_ir => k_is)
    (case a_nl => k_is)
    (case l_nl => k_is)
    (case c_nl => k_is)
    (case k_nl => k_is)
    (case a_pr => k_is)
    (case l_pr => k_is)
    (case c_pr => k_is)
    (case k_pr => k_is)
    (case a_ss => k_is)
    (case l_ss => k_is)
    (case c_ss => k_is)
    (case k_ss => k_is)
    (case a_pb => k_is)
    (case l_pb => k_is)
    (case c_pb => k_is)
    (case k_pb => k_is)
    (case a_ps => k_is)
    (case l_ps => k_is)
    (case c_ps => k_is)
    (case k_ps => k_is)
    (case a_ip => k_is)
    (case l_ip => k_is)
    (case c_ip => k_is)
    (case k_ip => k_is)
    (case a_ap => k_is)
    (case l_ap => k_is)
    (case c_ap => k_is)
    (case k_ap => k_is)
    (case a_lbag => k_is)
    (case l_lbag => k_is)
    (case c_lbag => k_is)
    (case k_lbag => k_is)
    (case a_ltk => k_is)
    (case l_ltk => k_is)
    (case c_ltk => k_is)
    (case k_ltk => k_is)
    (case a_lone => k_is)
    (case l_lone => k_is)
    (case c_lone => k_is)
    (case k_lone => k_is)
    (case a_lmx => k_is)
    (case l_lmx => k_is)
    (case c_lmx => k_is)
    (case k_lmx => k_is)
    (case a_lal => k_is)
    (case l_lal => k_is)
    (case c_lal => k_is)
    (case k_lal => k_is)
    (case a_lwh => k_is)
    (case l_lwh => k_is)
    (case c_lwh => k_is)
    (case k_lwh => k_is)
    (case a_lod => k_is)
    (case l_lod => k_is)
    (case c_lod => k_is)
    (case k_lod => k_is)
    (case a_lnm => k_is)
    (case l_lnm => k_is)
    (case c_lnm => k_is)
    (case k_lnm => k_is)
    (case a_lru => k_is)
    (case l_lru => k_is)
    (case c_lru => k_is)
    (case k_lru => k_is)
    (case a_lnr => k_is)
    (case l_lnr => k_is)
    (case c_lnr => k_is)
    (case k_lnr => k_is)
    (case a_ldb => k_is)
    (case l_ldb => k_is)
    (case c_ldb => k_is)
    (case k_ldb => k_is)
    (case a_lmt => k_is)
    (case l_lmt => k_is)
    (case c_lmt => k_is)
    (case k_lmt => k_is)
    (case a_lfw => k_is)
    (case l_lfw => k_is)
    (case c_lfw => k_is)
    (case k_lfw => k_is)
    (case a_lou => k_is)
    (case l_lou => k_is)
    (case c_lou => k_is)
    (case k_lou => k_is)
    (case a_lip => k_is)
    (case l_lip => k_is)
    (case c_lip => k_is)
    (case k_lip => k_is)
    (case a_lac => k_is)
    (case l_lac => k_is)
    (case c_lac => k_is)
    (case k_lac => k_is)
    (case a_lab => k_is)
    (case l_lab => k_is)
    (case c_lab => k_is)
    (case k_lab => k_is)
    (case a_lbt => k_is)
    (case l_lbt => k_is)
    (case c_lbt => k_is)
    (case k_lbt => k_is)
    (case a_law => k_is)
    (case l_law => k_is)
    (case c_law => k_is)
    (case k_law => k_is)
    (case a_mi => k_is)
    (case l_mi => k_is)
    (case c_mi => k_is)
    (case k_mi => k_is)
    (case i_mi => k_is)
    (case a_ml => k_is)
    (case l_ml => k_is)
    (case c_ml => k_is)
    (case k_ml => k_is)
    (case i_ml => k_is)
    (case a_mp => k_is)
    (case l_mp => k_is)
    (case c_mp => k_is)
    (case k_mp => k_is)
    (case i_mp => k_is)
    (case a_ms => k_is)
    (case l_ms => k_is)
    (case c_ms => k_is)
    (case k_ms => k_is)
    (case i_ms => k_is)
    (case z_len => k_is)
    (case z_int => k_is)
    (case z_range => k_is)
    (case z_abs => k_is)
    (case z_sorted => k_is)
    (case z_set => k_is)
    (case z_tuple => k_is)
    (case z_list => k_is)
    (case z_dict => k_is)
    (case z_repr => k_is)
    (case z_isinstance => k_is)
    (case z_all => k_is)
    (case z_any => k_is)
    (case z_bool => k_is)
    (case z_str => k_is)
    (case z_super => k_is)
    (case gl => k_is)
    (case go => k_is)
    (case gw => k_is)
    (case gwl => k_is)
    (case pg => k_is)
    (case ic => k_is)
    (case po => k_is)
    (case sa => k_is)
    (case mk => k_is)
    (case kC => k_is)
    (case s1a => k_is)
    (case s1g => k_is)
    (case s1t => k_is)
    (case s1y => k_is)
    (case s1i => k_is)
    (case s2a => k_is)
    (case s2g => k_is)
    (case s2t => k_is)
    (case s2y => k_is)
    (case s2i => k_is)
    (case ca => k_is)
    (case cn => k_is)
    (case ct => k_is)
    (case cm => k_is)
    (case cl => k_is)
    (case uk => k_is)
    (case ub => k_is)
    (case ut => k_is)
    (case ui => first | k_is | kernel_rfl | rfl)
    (case ul => k_is)
    (case utI => k_is)
    (case us => first | k_is | kernel_rfl | rfl)
    (case uv => k_is)
    (case um => k_is)
    (case uth => k_is)
    (case ulf => k_is)
    (case ucd => k_is)
    (case ulc => k_is)
    (case uvs => rfl)
    (case ufl => first | rfl | decide +kernel | kernel_rfl)
    (case ucc => k_is)
    (case utop => first | rfl | decide +kernel | kernel_rfl)
    (case uga => k_is)
    (case ugt => k_is)
    (case uhd => k_is)
    (case uca => k_is)
    (case umo => k_is)
    (case kb => k_is)
    (case kh => k_is)
    (case kt => k_is)
    (case ks => first | k_is | kernel_rfl)
    (case hcd => rfl)
    (case hch => first | k_is | kernel_rfl | rfl)
    (case hPt => exact PySem.W.km_tabs_of Y _ (by decide))
    (case hPn => first | rfl | kernel_rfl)

