import PyProof.Rows.All
import Wide.All
import OpenK.AllK
import Wide.FinOn
import KE.KStateDown
import HandS.Base
import HandS.Call
import HandS.List
import HandS.Comp
import HandS.Codes
import HandS.Dict
import HandS.Iter
import HandS.Text
import HandS.More
import HandS.Ends
import HandS.Exc
import HandS.ExcOwn
import HandS.TryOnly
import HandS.Words
import HandS.WordsList
import HandS.WordsDict
import HandS.WordsExc
import HandS.Defaults
import HandS.Style
import HandS.Wide
import HandS.IsInst
import HandS.ExcIs
import HandS.ExcField
import HandS.TupAny
import HandS.TupMul
import HandS.Small
import HandS.Walk
import HandS.Head0
import HandS.Head1
import HandS.Head2
import HandS.HeadEnd
import HandS.HeadHook1
import HandS.HeadHook2
import PyProof.ReprRoads
import PyProof.ReprReads
import PyProof.ReprText
import PyProof.StrBlock2
import PyProof.ReprLoop
import KE.KExcSuper
import KE.KExcInit
import KE.KExcIs
import HandS.ExcSuper
import HandS.HeadWalk
import PySem.Challenge.RW_rulewardens_k01_whole_errors_and_four_mo

set_option Elab.async false
set_option linter.all false
set_option maxRecDepth 100000
set_option maxHeartbeats 2000000
/-! nested data in the abstract heap; its repr -/
namespace Rw
open PySem PySem.Spec PyProof.Rows L2

mutual
/-- data as it lies: every object of it tracked, at a place that ok lets -/
inductive Dq (H : Hp) (ok : Addr → Prop) : V → PyData → Prop
  | non : Dq H ok .non .none
  | bl (b : Bool) : Dq H ok (.bl b) (.bool b)
  | int (i : Int) : Dq H ok (.int i) (.int i)
  | str (x : Str) : Dq H ok (.str x) (.str x)
  | lst {a : Addr} {xs : List V} {ds : List PyData} : ok a → H a = some (.lst xs) → DqAll H ok xs ds → Dq H ok (.ref a) (.list ds)
  | tup {a : Addr} {xs : List V} {ds : List PyData} : ok a → H a = some (.tup xs) → DqAll H ok xs ds → Dq H ok (.ref a) (.tuple ds)
  | dic {a : Addr} {kvs : List (Key × V)} {ds : List (PyData × PyData)} : ok a → H a = some (.dK kvs) → DqAll H ok (kvs.map fun p => kV p.1) (ds.map (·.1)) →
      DqAll H ok (kvs.map (·.2)) (ds.map (·.2)) → Dq H ok (.ref a) (.dict ds)
inductive DqAll (H : Hp) (ok : Addr → Prop) : List V → List PyData → Prop
  | nil : DqAll H ok [] []
  | cons {v : V} {vs : List V} {d : PyData} {ds : List PyData} : Dq H ok v d → DqAll H ok vs ds → DqAll H ok (v :: vs) (d :: ds)
end

theorem key_val {k : Key} {u : Value} (h : keyIs k u = true) : RelV (kV k) u := by
  rcases keyIs_shape h with ⟨i, t, rfl, rfl⟩ | ⟨x, t, rfl, rfl⟩
  · exact ⟨t, rfl⟩
  · exact ⟨t, rfl⟩
theorem pairs_keys {P : Program} {w : World} {es : List DictEntry} {vs : List (Key × Value)} (h : Pairs (mixKind P w) es vs) :
    Vals (vs.map fun p => kV p.1) (es.map (·.key)) ∧ es.map (·.val) = vs.map (·.2) := by
  induction h with
  | nil => exact ⟨.nil, rfl⟩
  | cons h1 h2 h3 ih => exact ⟨.cons (key_val h1) ih.1, by rw [List.map_cons, List.map_cons, h2, ih.2]⟩
theorem kv_keys : ∀ {kvs : List (Key × V)} {vs : List (Key × Value)}, KV kvs vs → (kvs.map fun p => kV p.1) = (vs.map fun p => kV p.1) ∧ Vals (kvs.map (·.2)) (vs.map (·.2))
  | _, _, .nil => ⟨rfl, .nil⟩
  | _, _, .cons h t => by
    obtain ⟨e1, e2⟩ := kv_keys t
    exact ⟨by rw [List.map_cons, List.map_cons, e1, h.1], .cons h.2 e2⟩

section
variable {X : Cx} {pins : List (Addr × Obj)} {σ : List (Option V)} {H : Hp} {s : Shared} {ok : Addr → Prop}
/-- it is read off the heap as such data -/
theorem not_sys (I : Inv X pins σ H s) (hs : ∃ o, X.K.lookup sysModules = some o) {a : Addr} {o : HO} (h : H a = some o) : a ≠ sysModules := by
  obtain ⟨u, hu⟩ := hs
  intro e
  rw [e, (I.bs _ _ (I.ok.mod.kin _ _ hu)).2] at h
  cases h
theorem dq_reads (I : Inv X pins σ H s) (hsy : ∃ o, X.K.lookup sysModules = some o) {v : V} {d : PyData} (h : Dq H ok v d) : ∀ u, RelV v u → ∃ as, Reads s.heap u d as ∧ sysModules ∉ as := by
  refine Dq.rec (motive_1 := fun v d _ => ∀ u, RelV v u → ∃ as, Reads s.heap u d as ∧ sysModules ∉ as)
    (motive_2 := fun vs ds _ => ∀ us, Vals vs us → ∃ as, ReadsAll s.heap us ds as ∧ sysModules ∉ as) ?_ ?_ ?_ ?_ ?_ ?_ ?_ ?_ ?_ h
  · intro u r
    cases r
    exact ⟨_, .none, List.not_mem_nil⟩
  · intro b u r
    cases r
    exact ⟨_, .bool b, List.not_mem_nil⟩
  · intro i u r
    obtain ⟨t, rfl⟩ := r
    exact ⟨_, .int i t, List.not_mem_nil⟩
  · intro x u r
    obtain ⟨t, rfl⟩ := r
    exact ⟨_, .str x t, List.not_mem_nil⟩
  · intro a xs ds ho ha _ ih u r
    cases r
    obtain ⟨its, rv, ⟨o, n, hg, hc, _, hd⟩, _⟩ := I.list (SqL.of ha)
    obtain ⟨as, hr, hn⟩ := ih _ rv
    refine ⟨_, Reads.list hg hc hd hr, fun z => ?_⟩
    rcases List.mem_cons.mp z with z | z
    · exact not_sys I hsy ha z.symm
    · exact hn z
  · intro a xs ds ho ha _ ih u r
    cases r
    obtain ⟨its, rv, ⟨o, hg, hc, n, hd⟩, _⟩ := I.tuple (SqT.of ha)
    obtain ⟨as, hr, hn⟩ := ih _ rv
    exact ⟨_, Reads.tuple hg hc hd hr, hn⟩
  · intro a kvs ds ho ha _ _ ih1 ih2 u r
    cases r
    obtain ⟨_, hsys, vs, rkv, o, es, ep, hg, hx, hd, _, hp, _⟩ := (show ObjOk X.prog X.w H s.heap a (.dK kvs) from I.hok a _ ha)
    obtain ⟨e1, rv⟩ := kv_keys rkv
    obtain ⟨rk, e2⟩ := pairs_keys hp
    obtain ⟨as, hr1, hn1⟩ := ih1 _ (by rw [e1]; exact rk)
    obtain ⟨bs, hr2, hn2⟩ := ih2 (es.toList.map (·.val)) (by rw [e2]; exact rv)
    refine ⟨_, Reads.dict hg hx.1 hd hr1 hr2, fun z => ?_⟩
    rcases List.mem_append.mp z with z | z
    · rcases List.mem_cons.mp z with z | z
      · exact not_sys I hsy ha z.symm
      · exact hn1 z
    · exact hn2 z
  · intro us r
    cases r
    exact ⟨_, .nil, List.not_mem_nil⟩
  · intro v vs d ds _ _ ih1 ih2 us r
    cases r with
    | cons r1 r2 =>
      obtain ⟨as, hr1, hn1⟩ := ih1 _ r1
      obtain ⟨bs, hr2, hn2⟩ := ih2 _ r2
      exact ⟨_, .cons hr1 hr2, fun z => (List.mem_append.mp z).elim hn1 hn2⟩

/-- what repr asks -/
def rRepr : List V → Hp → VK → Prop := fun xs H Q => ∃ (ok : Addr → Prop) (v : V) (d : PyData), xs = [v] ∧ Dq H ok v d ∧ d.showable = true ∧ d.shown.length ≤ sizeLine ∧ d.depth ≤ 30 ∧ Q (.str d.shown) H
theorem call_repr (hg : X.A.guards = some []) (hu : X.A.units + 64 < cLine) (hsy : ∃ o, X.K.lookup sysModules = some o) : CallR X (.builtin "repr") rRepr := by
  intro pins s σ H xs us Q I r h
  obtain ⟨ok, v, d, rfl, hd, hs, hz, hp, q⟩ := h
  obtain ⟨u, rfl, ru⟩ := vals1 r
  obtain ⟨as, hr, hn⟩ := dq_reads I hsy hd u ru
  cases u with
  | ref a => exact repr_of_reads' hr hs (fun _ => hn) hg (by omega) (fun _ _ e => e) (fun h' u' tk hk => ⟨.str _, H, I.kept hk, ⟨u', rfl⟩, q⟩) hz
  | none =>
    cases hr
    exact PySem.P.repr_of_none ⟨.str _, H, I.tok _, ⟨_, rfl⟩, by simpa only [PyData.shown] using q⟩
  | bool b =>
    cases hr
    exact PySem.P.repr_of_bool ⟨.str _, H, I.tok _, ⟨_, rfl⟩, by simpa only [PyData.shown] using q⟩
  | int i t =>
    cases hr
    exact PySem.P.repr_of_int (by simpa [PyData.showable] using hs) ⟨.str _, H, I.tok _, ⟨_, rfl⟩, by simpa only [PyData.shown] using q⟩
  | str x t =>
    cases hr
    exact PySem.P.repr_of_str ⟨.str _, H, I.tok _, ⟨_, rfl⟩, by simpa only [PyData.shown] using q⟩ (by simpa only [PyData.shown] using hz)
  | _ => cases hr
end

/-- what grew: all that stood and is let stands -/
theorem Dq.mono {H H' : Hp} {ok ok' : Addr → Prop} (k : ∀ a o, ok a → H a = some o → H' a = some o ∧ ok' a) {v : V} {d : PyData} (h : Dq H ok v d) : Dq H' ok' v d := by
  refine Dq.rec (motive_1 := fun v d _ => Dq H' ok' v d) (motive_2 := fun vs ds _ => DqAll H' ok' vs ds) ?_ ?_ ?_ ?_ ?_ ?_ ?_ ?_ ?_ h
  · exact .non
  · exact fun b => .bl b
  · exact fun i => .int i
  · exact fun x => .str x
  · exact fun ho ha _ ih => .lst (k _ _ ho ha).2 (k _ _ ho ha).1 ih
  · exact fun ho ha _ ih => .tup (k _ _ ho ha).2 (k _ _ ho ha).1 ih
  · exact fun ho ha _ _ i1 i2 => .dic (k _ _ ho ha).2 (k _ _ ho ha).1 i1 i2
  · exact .nil
  · exact fun _ _ i1 i2 => .cons i1 i2
theorem DqAll.mono {H H' : Hp} {ok ok' : Addr → Prop} (k : ∀ a o, ok a → H a = some o → H' a = some o ∧ ok' a) : ∀ {vs : List V} {ds : List PyData}, DqAll H ok vs ds → DqAll H' ok' vs ds
  | _, _, .nil => .nil
  | _, _, .cons h t => .cons (h.mono k) (DqAll.mono k t)
theorem DqAll.append {H : Hp} {ok : Addr → Prop} : ∀ {vs ws : List V} {ds es : List PyData}, DqAll H ok vs ds → DqAll H ok ws es → DqAll H ok (vs ++ ws) (ds ++ es)
  | _, _, _, _, .nil, h => h
  | _, _, _, _, .cons h t, h' => .cons h (DqAll.append t h')
theorem DqAll.len {H : Hp} {ok : Addr → Prop} : ∀ {vs : List V} {ds : List PyData}, DqAll H ok vs ds → vs.length = ds.length
  | _, _, .nil => rfl
  | _, _, .cons _ t => by rw [List.length_cons, List.length_cons, DqAll.len t]
end Rw

set_option Elab.async false
set_option linter.all false
set_option maxRecDepth 100000
set_option maxHeartbeats 2000000
/-! how long, how deep data is that is written out -/
namespace Rw
open PySem PySem.Spec PyProof.Rows L2
theorem op_mul_str {X : Cx} : OpR X (binaryOp .Mult) (fun x y H Q => ∃ i n, x = .str i ∧ y = .int n ∧ MulOk i n ∧ Q (.str (Txt.mul i n)) H) := by
  intro pins s σ H x y v u Q I rx ry h
  obtain ⟨i, n, rfl, rfl, hok, q⟩ := h
  obtain ⟨t, rfl⟩ := rx
  obtain ⟨t', rfl⟩ := ry
  exact SB.mul hok fun t' tk => ⟨.str _, H, I.tok _, ⟨_, rfl⟩, q⟩
/-- what may be written out: n deep, B long -/
structure Show (n B : Nat) (d : PyData) : Prop where
  ok : d.showable = true
  len : d.shown.length ≤ B
  deep : d.depth ≤ n
theorem Show.mono {n m B C : Nat} {d : PyData} (h : Show n B d) (h1 : n ≤ m) (h2 : B ≤ C) : Show m C d := ⟨h.ok, Nat.le_trans h.len h2, Nat.le_trans h.deep h1⟩
theorem join_le {ts : List Str} {B : Nat} (h : ∀ t ∈ ts, t.length ≤ B) : (Str.join ", " ts).length ≤ ts.length * (B + 2) := by
  have hp : ∀ ts : List Str, (∀ t ∈ ts, t.length ≤ B) → piled ts ≤ ts.length * (B + 2) := by
    intro ts
    induction ts with
    | nil => intro _; exact Nat.zero_le _
    | cons t r ih =>
      intro h
      rw [piled_cons, List.length_cons, Nat.succ_mul]
      have h1 := h t (by simp)
      have h2 := ih fun x hx => h x (by simp [hx])
      omega
  cases ts with
  | nil => exact Nat.le_of_eq (by simp; rfl)
  | cons t r =>
    have h1 := join_length_add (t :: r) (by simp)
    have h2 := hp _ h
    omega
theorem all_shown {ds : List PyData} {B : Nat} (h : ∀ d ∈ ds, d.shown.length ≤ B) : ∀ t ∈ PyData.shownAll ds, t.length ≤ B := by
  induction ds with
  | nil => intro t ht; simp [PyData.shownAll] at ht
  | cons d r ih =>
    intro t ht
    rw [PyData.shownAll_cons] at ht
    rcases List.mem_cons.mp ht with e | e
    · rw [e]; exact h d (by simp)
    · exact ih (fun x hx => h x (by simp [hx])) t e
theorem all_deep {n : Nat} : ∀ {ds : List PyData}, (∀ d ∈ ds, d.depth ≤ n) → PyData.depthAll ds ≤ n
  | [], _ => by simp [PyData.depthAll]
  | d :: r, h => by
    simp only [PyData.depthAll]
    exact Nat.max_le.mpr ⟨h d (by simp), all_deep fun x hx => h x (by simp [hx])⟩
theorem Show.list {ds : List PyData} {n B : Nat} (h : ∀ d ∈ ds, Show n B d) : Show (n + 1) (ds.length * (B + 2) + 2) (.list ds) := by
  refine ⟨?_, ?_, ?_⟩
  · simp only [PyData.showable]
    exact showableAll_of fun x hx => (h x hx).ok
  · rw [PyData.shown_list, PySem.Str.length_append, PySem.Str.length_append]
    have h1 := join_le (all_shown fun d hd => (h d hd).len)
    rw [PyData.shownAll_length] at h1
    have h2 : ("[" : Str).length = 1 := rfl
    have h3 : ("]" : Str).length = 1 := rfl
    omega
  · simp only [PyData.depth]
    exact Nat.succ_le_succ (all_deep fun x hx => (h x hx).deep)
theorem Show.tuple {ds : List PyData} {n B : Nat} (h : ∀ d ∈ ds, Show n B d) : Show (n + 1) (ds.length * (B + 2) + 3) (.tuple ds) := by
  refine ⟨?_, ?_, ?_⟩
  · simp only [PyData.showable]
    exact showableAll_of fun x hx => (h x hx).ok
  · rw [PyData.shown_tuple, PySem.Str.length_append, PySem.Str.length_append]
    have h1 := join_le (all_shown fun d hd => (h d hd).len)
    rw [PyData.shownAll_length] at h1
    have h2 : ("(" : Str).length = 1 := rfl
    have h3 : (Str.ofString (if ds.length == 1 then ",)" else ")" : String)).length ≤ 2 := by split <;> decide
    omega
  · simp only [PyData.depth]
    exact Nat.succ_le_succ (all_deep fun x hx => (h x hx).deep)
theorem kv_shown {ds : List (PyData × PyData)} {B C : Nat} (h : ∀ d ∈ ds, d.1.shown.length ≤ C ∧ d.2.shown.length ≤ B) : ∀ t ∈ PyData.shownKv ds, t.length ≤ C + 2 + B := by
  induction ds with
  | nil => intro t ht; simp [PyData.shownKv] at ht
  | cons d r ih =>
    intro t ht
    obtain ⟨k, v⟩ := d
    rw [PyData.shownKv_cons] at ht
    rcases List.mem_cons.mp ht with e | e
    · rw [e, PySem.Str.length_append, PySem.Str.length_append]
      have h1 := h (k, v) (by simp)
      have h2 : (": " : Str).length = 2 := rfl
      have h3 := h1.1
      have h4 := h1.2
      simp only at h3 h4
      omega
    · exact ih (fun x hx => h x (by simp [hx])) t e
theorem kv_len : ∀ ds : List (PyData × PyData), (PyData.shownKv ds).length = ds.length
  | [] => by simp [PyData.shownKv]
  | (k, v) :: r => by rw [PyData.shownKv_cons, List.length_cons, List.length_cons, kv_len r]
theorem kv_deep {n : Nat} : ∀ {ds : List (PyData × PyData)}, (∀ d ∈ ds, d.1.depth ≤ n ∧ d.2.depth ≤ n) → PyData.depthKv ds ≤ n
  | [], _ => by simp [PyData.depthKv]
  | (k, v) :: r, h => by
    simp only [PyData.depthKv]
    have h1 := h (k, v) (by simp)
    exact Nat.max_le.mpr ⟨Nat.max_le.mpr h1, kv_deep fun x hx => h x (by simp [hx])⟩
theorem Show.dict {ds : List (PyData × PyData)} {n B C : Nat} (h : ∀ d ∈ ds, Show n C d.1 ∧ Show n B d.2) : Show (n + 1) (ds.length * (C + 2 + B + 2) + 2) (.dict ds) := by
  refine ⟨?_, ?_, ?_⟩
  · simp only [PyData.showable]
    exact showableKv_of fun x hx => ⟨(h x hx).1.ok, (h x hx).2.ok⟩
  · rw [PyData.shown_dict, PySem.Str.length_append, PySem.Str.length_append]
    have h1 := join_le (kv_shown fun d hd => ⟨(h d hd).1.len, (h d hd).2.len⟩)
    rw [kv_len] at h1
    have h2 : ("{" : Str).length = 1 := rfl
    have h3 : ("}" : Str).length = 1 := rfl
    omega
  · simp only [PyData.depth]
    exact Nat.succ_le_succ (kv_deep fun x hx => ⟨(h x hx).1.deep, (h x hx).2.deep⟩)
theorem DqAll.at {H : Hp} {ok : Addr → Prop} : ∀ {vs : List V} {ds : List PyData} {i : Nat} {x : V}, DqAll H ok vs ds → vs[i]? = some x → ∃ d, ds[i]? = some d ∧ Dq H ok x d
  | _, _, 0, _, .cons h _, e => by cases e; exact ⟨_, rfl, h⟩
  | _, _, i + 1, _, .cons _ t, e => DqAll.at (i := i) t e
end Rw

set_option Elab.async false
set_option linter.all false
set_option maxRecDepth 100000
set_option maxHeartbeats 2000000
/-! a def's promise where nothing is being written out (guards known to be none): needed by repr -/
namespace Rw
open PySem PySem.Spec PyProof.Rows L2

structure FnG (P : Program) (w : World) (K : PySem.W.Frag) (mg : Str → Option Value) (base : Heap) (CX : CXT) (k : Nat) (f : Addr) (fd : FuncData) (ps : List Str) (sp : Sp) : Prop where
  size : ∀ vs H Q E, sp vs H Q E → vs.length = ps.length
  go : ∀ (A : Around) (outer : List Env) (s : Shared) (H : Hp) (args : Args) (us : List Value) (vs : List V) (Q : VK) (E : XK), A.guards = some [] → Room k A → Env0 P w K mg base A outer s H →
    BindsTo s fd args (ps.zip us) → Vals vs us → sp vs H Q E → codeAny (model P w) A (.call (.ref f) args) (CR CX outer P w H s Q E) s

section
variable {P : Program} {w : World} {K : PySem.W.Frag} {mg : Str → Option Value} {base : Heap} {CX : CXT} {k : Nat} {f : Addr} {fd : FuncData} {ps : List Str} {sp : Sp}
theorem FnG.of (F : FnOk P w K mg base CX k f fd ps sp) : FnG P w K mg base CX k f fd ps sp :=
  ⟨F.len, fun A outer s H args us vs Q E _ hr e0 hb r hs => F.run A outer s H args us vs Q E hr e0 hb r hs⟩
theorem FnG.up {j : Nat} (F : FnG P w K mg base CX j f fd ps sp) (h : j ≤ k) : FnG P w K mg base CX k f fd ps sp :=
  ⟨F.size, fun A outer s H args us vs Q E hg hr => F.go A outer s H args us vs Q E hg (hr.mono h)⟩

/-- by the body, the guards told -/
theorem fng_body {x qual : Str} {params : Arguments} {body : List Stmt} {scope : Scope} {dvs : List V} {kws : List (Str × V)} {N : List Str}
    (F : FunD K x qual params body scope dvs kws f fd) (S : FnScope N ps scope) (len : ∀ vs H Q E, sp vs H Q E → vs.length = ps.length)
    (hb : ∀ (cdv : Value) (A : Around) (outer : List Env) (s : Shared) (H : Hp) (vs : List V) (Q : VK) (E : XK), (A.deeper (envOfC qual scope s.heap.objs.size f cdv)).guards = some [] →
      Room k (A.deeper (envOfC qual scope s.heap.objs.size f cdv)) → sp vs H Q E →
      ∃ t, PSs (cxOf CX P w K mg base N qual scope f cdv A outer s H E) body t ∧ t { nx := fun _ H' => Q .non H', rt := Q } (start N vs) H) :
    FnG P w K mg base CX (k + 1) f fd ps sp := by
  obtain ⟨oc, od, dV, kV, doc, pm, an, cdv, ct, osl, rfl, lk, hcd, _, _⟩ := F.ex
  refine ⟨len, ?_⟩
  intro A outer s H args us vs Q E hg hr e0 bnd rel hsp
  have n := len _ _ _ _ hsp
  have keep : ∀ b o, base.get? b = some o → s.heap.get? b = some o := fun b o e => (e0.bs b o e).1
  have KX : K.In s.heap := e0.mod.kin.keeps keep
  have kinds : ∀ y ∈ ps.zip us, scope.names.lookup y.1 = some .local ∨ (scope.names.lookup y.1 = some .cell ∧ ((cellsFrom (s.heap.objs.size + 1) scope.names []).lookup y.1).isSome = true) := by
    intro y hy
    obtain ⟨m, v⟩ := y
    have hm := S.par m (List.of_mem_zip hy).1
    exact hm.imp id fun q => ⟨q, PySem.W.cellsFrom_some _ _ _ (.inl q)⟩
  refine codeAny_call_function hr.depth (KX _ _ lk) rfl S.co S.gen rfl (PySem.W.codeRec_of KX hcd) (bnd _ _ _ _ ?_)
  refine wpAny_newFunctionEnv_cells S.kind kinds fun env henv s1 inC => ?_
  subst henv
  refine ⟨(e0.mod.nolimit.keeps keep).keeps inC.toInCall.keep, codeAny_func ?_⟩
  obtain ⟨t, run, h0⟩ := hb cdv A outer s H vs Q E hg (hr.deeper _) hsp
  have I0 : Inv (cxOf CX P w K mg base N qual scope f cdv A outer s H E) [] (start N vs) H s1 := inv_start S hr.hd e0 n rel inC
  refine wpAny_mono (run.run [] s1 (start N vs) H _ I0 h0) ?_ (fun e s' z => z)
  intro fl s' z
  match fl, z with
  | .ret u, ⟨v, σ', H', J, rv, q⟩ => exact ⟨v, H', J.os, J.bare, J.base, J.hok, rv, q⟩
  | .next, ⟨σ', H', J, q⟩ => exact ⟨.non, H', J.os, J.bare, J.base, J.hok, rfl, q⟩
  | .brk, ⟨_, _, _, q⟩ => exact q.elim
  | .cont, ⟨_, _, _, q⟩ => exact q.elim
end

section
variable {X : Cx} {CX : CXT} {k : Nat} {f : Addr} {fd : FuncData} {ps : List Str} {sp : Sp} {dvs : List V} {ds : List Value} {E : XK} {x : Str} {p pos : Pos} {e : Expr} {es : List Expr} {t : TA}
theorem fng_call {pins : List (Addr × Obj)} {σ : List (Option V)} {H : Hp} {s : Shared} {Q : VK} {us : List Value} {vs : List V} (F : FnG X.prog X.w X.K X.mg X.base CX k f fd ps sp) (hg : X.A.guards = some []) (hr : Room k X.A) (hb : Binds X.K fd ps ds)
    (hd : Vals dvs ds) (hx : Passes CX X E) (I : Inv X pins σ H s) (r : Vals vs us) (h : sp (vs ++ dvs) H Q E) : wpAny (model X.prog X.w) X.A (call (.ref f) us) (EP X pins σ Q) X.xe s := by
  have rel : Vals (vs ++ dvs) (us ++ ds) := r.append hd
  have n : (us ++ ds).length = ps.length := rel.length ▸ F.size _ _ _ _ h
  refine wpAny_call (codeAny_mono (F.go X.A X.stack s H ⟨us, []⟩ (us ++ ds) (vs ++ dvs) Q E hg hr I.env0 (hb s us I.kIn n) rel h) ?_)
  intro r s' z
  match r, z with
  | .error e, z => exact hx pins σ H s e s' I z
  | .ok (.ret u), z => exact I.after z
  | .ok .next, z => exact z.elim
  | .ok .brk, z => exact z.elim
  | .ok .cont, z => exact z.elim
/-- f(e, ..) of such a def -/
theorem pe_callG (F : FnG X.prog X.w X.K X.mg X.base CX k f fd ps sp) (hgd : X.A.guards = some []) (hr : Room k X.A) (hg : Gl X x) (hm : X.mg x = some (.ref f)) (hk : PySem.W.keepIn X.K (.ref f) = true) (hb : Binds X.K fd ps ds) (hd : Vals dvs ds)
    (hx : Passes CX X E) (ha : PA X (e :: es) t) (hdb : (x == ("__debug__" : Str)) = false := by decide) (he : starEach (e :: es) X.env = (false, eval e X.env) :: starEach es X.env := by rfl)
    (hpl : (backTo pos (starEach es X.env)).any (·.1) = false := by rfl) : PE X (.Call (.Name x p) (e :: es) [] pos) (tCall sp dvs E t) :=
  ⟨fun pins s σ H Q I h => wpAny_Call_Name_kw (ld_glob I hg hm (PySem.W.callWith_K (h₀ := X.base) I.ok.mod.kin hk
    (thn (ha.run pos pins s σ H _ I h) fun us s1 ⟨vs, H1, I1, r, q⟩ => ⟨I1.kIn, fng_call F hgd hr hb hd hx I1 r q⟩) he hpl) hdb)⟩
end
/-- no exception gets out: so it is a promise without -/
theorem FnG.to0 {P : Program} {w : World} {K : PySem.W.Frag} {mg : Str → Option Value} {base : Heap} {k : Nat} {f : Addr} {fd : FuncData} {ps : List Str} {sp : Sp} (F : FnG P w K mg base (CX P w) k f fd ps sp) : FnG P w K mg base CX0 k f fd ps (fun vs H Q _ => sp vs H Q E0) := by
  refine ⟨fun vs H Q E h => F.size vs H Q _ h, fun A outer s H args us vs Q E hg hr e0 hb r hs => ?_⟩
  refine codeAny_mono (F.go A outer s H args us vs Q E0 hg hr e0 hb r hs) fun r s' z => ?_
  match r, z with
  | .error e, z =>
    obtain ⟨a, B, H', cls, d, _, _, _, _, _, _, _, q⟩ := z
    exact absurd q (fun z => (z : False))
  | .ok (.ret u), z => exact z
  | .ok .next, z => exact z
  | .ok .brk, z => exact z
  | .ok .cont, z => exact z
/-- the rule for a def whose body writes out (repr): as FunD.ok, the guards told -/
theorem fn_okG {P : Program} {w : World} {K : PySem.W.Frag} {mg : Str → Option Value} {base : Heap} {k : Nat} {f : Addr} {fd : FuncData} {ps : List Str} {sp : Sp}
    {x qual : Str} {params : Arguments} {body : List Stmt} {scope : Scope} {dvs : List V} {kws : List (Str × V)} {N : List Str}
    (F : FunD K x qual params body scope dvs kws f fd) (S : FnScope N ps scope) (len : ∀ vs H Q E, sp vs H Q E → vs.length = ps.length)
    (hb : ∀ (cdv : Value) (A : Around) (outer : List Env) (s : Shared) (H : Hp) (vs : List V) (Q : VK) (E : XK), (A.deeper (envOfC qual scope s.heap.objs.size f cdv)).guards = some [] →
      Room k (A.deeper (envOfC qual scope s.heap.objs.size f cdv)) → sp vs H Q E →
      ∃ t, PSs (cxOf CX0 P w K mg base N qual scope f cdv A outer s H E).nox body t ∧ t { nx := fun _ H' => Q .non H', rt := Q } (start N vs) H) :
    FnG P w K mg base CX0 (k + 1) f fd ps sp :=
  fng_body F S len fun cdv A outer s H vs Q E hg hr hsp => by
    obtain ⟨t, h, q⟩ := hb cdv A outer s H vs Q E hg hr hsp
    exact ⟨t, h.nox, q⟩
end Rw

set_option Elab.async false
set_option linter.all false
set_option maxRecDepth 100000
set_option maxHeartbeats 2000000
/-! the end of a law whose def is promised with the guards told -/
namespace Rw
open PySem PySem.Spec PyProof.Rows L2

section
variable {P : Program} {w : World} {K : PySem.W.Frag} {mg mb : Str → Option Value} {CX : CXT} {k : Nat} {fa a : Addr} {fd : FuncData} {x : Str} {sp : Sp} {s : Shared} {vs : List Value} {ns : List Int}
/-- with an abstract heap that tracks the script alone, or nothing -/
theorem law_goes (KX : K.In s.heap) (hns : s.heap.Ns mainGlobals mg) (hmb : s.heap.Ns builtinsNs mb) (hbb : ∀ y : Str, y ≠ "__name__" → mb y = bootBuiltins y) (hlim : s.heap.NoLimit) (hgen : s.gens = #[])
    (ha : s.heap.get? a = some { cls := .type "list", data := .seq vs.toArray }) (hr : Room k callerA)
    (F : ∀ base : Heap, K.In base → base.Ns mainGlobals mg → FnG P w K mg base CX k fa fd [x] sp) (bnd : ∀ (s : Shared) (u : Value), BindsTo s fd ⟨[u], []⟩ [(x, u)])
    (stop : ∀ H e s', CX [] H s (fun _ _ _ => False) e s' → False) {H : Hp} (only : ∀ b o, H b = some o → b = a ∧ K.lookup a = none ∧ ∃ ob u, o = .frz ob u) (hok : HOk P w H s.heap)
    (hsp : sp [.ref a] H (fun v _ => v = .bl true) fun _ _ _ => False) :
    codeAny (model P w) callerA (.call (.ref fa) ⟨[.ref a], []⟩) (fun r s' => r = .ok (.ret (.bool true)) ∧ OldK s.heap s'.heap ∧ s'.os = s.os ∧ AllBare s'.gens) s := by
  have free : ∀ {b : Addr} {o : Obj} {es : Array DictEntry} {ep : Nat}, s.heap.get? b = some o → o.data = .dict es ep → H b = none := by
    intro b o es ep e d
    cases q : H b with
    | none => rfl
    | some u =>
      obtain ⟨rfl, _⟩ := only b u q
      rw [ha] at e
      cases e
      cases d
  have nsB : ∀ {b : Addr} {m : Str → Option Value}, s.heap.Ns b m → (hidT s.heap H).Ns b m := by
    intro b m z
    obtain ⟨o, es, ep, e, d, r⟩ := z
    exact ⟨o, es, ep, hidT_get e (free e d), d, r⟩
  have KB : K.In (hidT s.heap H) := by
    intro b o e
    refine hidT_get (KX b o e) ?_
    cases q : H b with
    | none => rfl
    | some u =>
      obtain ⟨rfl, n, _⟩ := only b u q
      rw [n] at e
      cases e
  obtain ⟨ml, l1, l2⟩ := hlim
  have M : Mod K mg (hidT s.heap H) := ⟨KB, nsB hns, ⟨mb, nsB hmb, hbb⟩, ml, nsB l1, l2⟩
  have e0 : Env0 P w K mg (hidT s.heap H) callerA [] s H :=
    ⟨rfl, M, fun b o e => of_hidT e, by rw [hidT_size]; exact Nat.le_refl _, trivial, fun b z => (List.not_mem_nil (show b ∈ ([] : List Addr) from z)).elim, hok, .of_eq hgen⟩
  refine codeAny_mono ((F _ KB (nsB hns)).go callerA [] s H ⟨[.ref a], []⟩ [.ref a] [.ref a] _ _ rfl hr e0 (bnd s (.ref a)) (.cons rfl .nil) hsp) ?_
  intro r s' z
  match r, z with
  | .error e, z => exact (stop H e s' z).elim
  | .ok .next, z => exact z.elim
  | .ok .brk, z => exact z.elim
  | .ok .cont, z => exact z.elim
  | .ok (.ret u), ⟨v, H', os, bare, un, hok', rv, q⟩ =>
    subst q
    cases rv
    refine ⟨rfl, OldK.of_keep fun b o e => ?_, os, bare⟩
    cases q : H b with
    | none => exact un.keep b o e q (fun z => (List.not_mem_nil (show b ∈ ([] : List Addr) from z)).elim) List.not_mem_nil
    | some u =>
      obtain ⟨_, _, ob, u', rfl⟩ := only b u q
      have e1 := (hok b _ q).1
      have e2 := (hok' b _ (un.frzs b ob u' q)).1
      rw [e] at e1
      cases e1
      exact e2
end

/-- THE END: Y gives the written part, the law's promise (guards told), over every base -/
theorem walk_ofG {l : PySem.W.OpenLaw} {n k : Nat} {q : Program} {loose : List Str} {XP : (Str → Option Value) → Heap → Prop} {YP : World → Heap → Prop} {d : DefRec} {CX : World → CXT} {x : Str}
    (hn : l.most = some n) (hn2 : n ≤ sizeLine) (hdf : d.params.defaults = []) (hr : Room k callerA)
    (F : ∀ (w : World) (mg : Str → Option Value) (fa : Addr) (h : Heap), YP w h → h.Ns mainGlobals mg → mg d.name = some (.ref fa) →
      ∃ (K : PySem.W.Frag) (fd : FuncData) (sp : Sp), K.In h ∧ (∀ (s : Shared) (u : Value), BindsTo s fd ⟨[u], []⟩ [(x, u)]) ∧
        (∀ (H : Hp) (a : Addr) (ns : List Int), ns.length ≤ n → (∀ b o, H b = some o → ∃ ob u, o = .frz ob u) → SqL K H a (ns.map V.int) → sp [.ref a] H (fun v _ => v = .bl true) fun _ _ _ => False) ∧
        ∀ base : Heap, K.In base → base.Ns mainGlobals mg → FnG l.prog w K mg base (CX w) k fa fd [x] sp)
    (stop : ∀ (w : World) (H : Hp) (s : Shared) (e : Value) (s' : Shared), CX w [] H s (fun _ _ _ => False) e s' → False) :
    PySem.W.WalkO q loose XP YP l.row.toRowW d [] (fun f vs => PySem.call f vs) := by
  refine Att.attach_call hn hdf fun w s₀ s₁ mg mb fa o pm cd doc a vs ns G Y ho hd hcd hmg hobj hints hlen hg => ?_
  obtain ⟨K, fd, sp, KX, hb, hsp, hF⟩ := F w mg fa _ Y G.T.g hmg
  have rv := vals_ints hints
  have nv := hints.length
  have sz : ns.length ≤ sizeLine := Nat.le_trans hlen hn2
  cases hk : K.lookup a with
  | some ob =>
    have e := KX a ob hk
    rw [hobj] at e
    cases e
    exact law_goes (H := fun _ => none) KX G.T.g G.T.b G.T.builtins G.T.nolimit hg hobj hr hF hb (fun H e s' => stop w H s₁ e s') (fun b o z => nomatch z) (fun b o z => nomatch z)
      (hsp _ a ns hlen (fun b o z => nomatch z) (.inr ⟨_, vs.toArray, _, hk, rfl, rfl, rfl, by rw [List.size_toArray, nv]; exact sz, by simpa using rv⟩))
  | none =>
    have at_ : ∀ {b : Addr} {o : HO}, (if b = a then some (HO.frz { cls := .type "list", data := .seq vs.toArray } (.lst (ns.map V.int))) else none) = some o → b = a ∧ o = .frz { cls := .type "list", data := .seq vs.toArray } (.lst (ns.map V.int)) := by
      intro b o z
      by_cases hb : b = a
      · rw [if_pos hb] at z
        exact ⟨hb, (Option.some.inj z).symm⟩
      · rw [if_neg hb] at z
        cases z
    refine law_goes (H := fun b => if b = a then some (.frz { cls := .type "list", data := .seq vs.toArray } (.lst (ns.map V.int))) else none) KX G.T.g G.T.b G.T.builtins G.T.nolimit hg hobj hr hF hb (fun H e s' => stop w H s₁ e s')
      (fun b o z => ⟨(at_ z).1, hk, _, _, (at_ z).2⟩) (fun b o z => ?_) (hsp _ a ns hlen (fun b o z => ⟨_, _, (at_ z).2⟩) (.inl (.inr ⟨_, if_pos rfl⟩)))
    obtain ⟨rfl, rfl⟩ := at_ z
    exact ⟨hobj, by rw [List.length_map]; exact sz, vs, _, rv, hobj⟩
end Rw

set_option Elab.async false
set_option linter.all false
set_option maxRecDepth 100000
set_option maxHeartbeats 2000000
/-! the head's facts: defs by their texts, facts by names, and further ones of one's own (ex) -/
namespace Rw
open PySem PySem.Spec PyProof.Rows L2

/-- the written part: what the module's names reach in n steps, and two objects of the start -/
def frR (n : Nat) (g : Addr → Option Obj) : PySem.W.Frag := He.frG g (sysModules :: cStatics :: He.asD g n)
abbrev AlR : Type := Bool × List He.FnW
def obsR (n : Nat) (fa : List He.Fa) (fn : List He.DefD) (ex : PySem.W.Frag → Bool) (g : Addr → Option Obj) : AlR :=
  (((fa.all fun f => f.ok (frR n g)) && fn.all fun d => d.ok (frR n g)) && ex (frR n g), fn.map fun d => He.fnW (frR n g) d.at_)
structure SaysR (fa : List He.Fa) (fn : List He.DefD) (ex : PySem.W.Frag → Bool) (K : PySem.W.Frag) : Prop where
  base : He.SaysD fa fn K
  more : ex K = true
def hookR (n : Nat) (fa : List He.Fa) (fn : List He.DefD) (ex : PySem.W.Frag → Bool) : PySem.W.Hook where
  α := AlR
  obs := fun s => obsR n fa fn ex s.heap.get?
  val := fun _ => He.valD fn
  says := fun _ h => ∃ K : PySem.W.Frag, K.In h ∧ SaysR fa fn ex K
  of := fun _ s e => by
    have e1 : (((fa.all fun f => f.ok (frR n s.heap.get?)) && fn.all fun d => d.ok (frR n s.heap.get?)) && ex (frR n s.heap.get?)) = true := congrArg (fun z : AlR => z.1) e
    have e2 : (fn.map fun d => He.fnW (frR n s.heap.get?) d.at_) = fn.map He.DefD.val := congrArg (fun z : AlR => z.2) e
    obtain ⟨h1, h2⟩ := He.ba e1
    exact ⟨frR n s.heap.get?, He.frG_in, ⟨Prod.ext h1 e2, h2⟩⟩
  keeps := fun _ _ _ ⟨K, hK, c⟩ k => ⟨K, PySem.W.Frag.In.keeps hK k, c⟩
def obR (n : Nat) (fa : List He.Fa) (fn : List He.DefD) (ex : PySem.W.Frag → Bool) (s : PySem.W.SharedT) : AlR := obsR n fa fn ex (HandSHeadRun.getT s)
theorem obR_eq (n : Nat) (fa : List He.Fa) (fn : List He.DefD) (ex : PySem.W.Frag → Bool) (s : PySem.W.SharedT) : obR n fa fn ex s = (hookR n fa fn ex).obs s.abs := by
  have e : HandSHeadRun.getT s = s.abs.heap.get? := funext (HandSHeadRun.getT_eq s)
  show obsR n fa fn ex (HandSHeadRun.getT s) = obsR n fa fn ex s.abs.heap.get?
  rw [e]
end Rw

set_option Elab.async false
set_option linter.all false
set_option maxRecDepth 100000
set_option maxHeartbeats 2000000
/-! an own exception whose __init__ is: super().__init__(p); self.p = p. Made, by the bare machine -/
namespace Rw
open PySem PySem.W PySem.Calls PyProof.Rows

abbrev bmE : List Value := [.type "Exception", .type "BaseException", .type "object"]
/-- such an exception: the class at C, its arguments at t, its dict d -/
abbrev xo (C t : Addr) (d : Option Addr) : Obj := { cls := .ref C, dict := d, data := .fields #[.ref t, .none, .none, .none, .bool false, .none] }

section
open Builtin Builtin.ObjectAttr
variable {prog : Program} {w : World} {A : Around} {R : Result → Shared → Prop} {hp : Heap} {g : Array GenState} {d : Drawn} {tk0 : Nat} {os : OsState}
/-- its first attribute is stored: a dict is made -/
theorem xo_store {K : Frag} {name : Str} {tk : Tok} {v : Value} {x C t : Addr} (X : K.In hp) (hx : hp.get? x = some (xo C t none)) (hov : excOver K C bmE = true) (htk : takerIn K C name = some none) (hh : hasDictIn K C = true)
    (hq : ∀ h' tk' dx, (∀ b o, b ≠ x → hp.get? b = some o → h'.get? b = some o) → hp.objs.size ≤ dx → dx ≠ x → h'.get? x = some (xo C t (some dx)) →
      h'.Ns1 dx (fun y => if y = name then some v else none) → R (.ok (.ret .none)) ⟨h', g, d, tk', os⟩) :
    codeAny (model prog w) A (.call (.builtin "object.__setattr__") ⟨[.ref x, .str name tk, v], []⟩) R ⟨hp, g, d, tk0, os⟩ := by
  refine osa_openX (od := none) (ox := xo C t none) PySem.F.store_Exception X ⟨hx, rfl, rfl, trivial⟩ hov htk fun b => ?_
  obtain ⟨cd, hcd, hdict⟩ := any_some hh
  have hcls : Looks (model prog w) hp (classData C) cd := looks_clsIn X hcd
  have apart : x ≠ hp.objs.size := Nat.ne_of_lt (Heap.lt_size hx)
  obtain ⟨nm, bs, mro, ns, qn, hd, sn, sb, ab, col, del⟩ := cd
  dsimp only at hdict
  subst hdict
  show wpAny _ _ (storeInOwnDict (.ref x) (.ref C) (.str name tk) name v b) _ _ _
  unfold storeInOwnDict ownDictForStores
  repeat (first | with_reducible refine HandSPX.store_in_new ?_ ?_ | with_reducible refine wpAny_loadPart_at hx ?_ | with_reducible refine hcls.at ?_ | wp_step)
  · exact ⟨_, #[], _, (Heap.get?_update_ne _ _ _ _ apart.symm).trans (Heap.get?_push_at rfl rfl), rfl, fun e he => absurd he (by simp), fun _ => rfl⟩
  · intro h' tk' ns' same
    have hx1 : (hp.push { cls := .type "dict", data := .dict #[] }).get? x = some (xo C t none) := Heap.get?_push_of_some _ hx
    refine hq h' tk' hp.objs.size (fun b o hb ho => ?_) (Nat.le_refl _) apart.symm ?_ ns'
    · exact (same.2 b (Nat.ne_of_lt (Heap.lt_size ho))).trans ((Heap.get?_update_ne _ _ _ _ hb).trans (Heap.get?_push_of_some _ ho))
    · exact (same.2 x apart).trans (Heap.get?_update_self _ hx1 rfl)
end
end Rw

set_option Elab.async false
set_option linter.all false
set_option maxRecDepth 100000
set_option maxHeartbeats 2000000
namespace Rw
open PySem PySem.W PySem.Calls PyProof.Rows

/-- the text of such an __init__ -/
def iPars (p : Str) (p1 p2 : Pos) : Arguments := { posonlyargs := [], args := [{ arg := "self", annotation := none, pos := p1 }, { arg := p, annotation := none, pos := p2 }], vararg := none, kwonlyargs := [], kw_defaults := [], kwarg := none, defaults := [] }
def iBody (p : Str) (q1 q2 q3 q4 q5 q6 q7 q8 q9 q10 : Pos) : List Stmt :=
  [.Expr (.Call (.Attribute (.Call (.Name "super" q1) [] [] q2) "__init__" q3) [.Name p q4] [] q5) q6, .Assign [.Attribute (.Name "self" q7) p q8] (.Name p q9) q10]
abbrev iSc (ns : List (Str × NameKind)) : Scope := { kind := .function, names := ns, isGenerator := false, isCoroutine := false, more := [] }
/-- what its names are -/
structure IScope (p : Str) (ns : List (Str × NameKind)) : Prop where
  nocell : ∀ x ∈ ns, x.2 ≠ .cell
  self : ns.lookup ("self" : Str) = some .local
  par : ns.lookup p = some .local
  cls : ns.lookup ("__class__" : Str) = some .free
  sup : ns.lookup ("super" : Str) = some .globalImplicit

/-- o.name(args) on one line -/
theorem line_call {o : Expr} {name : Str} {apos pos : Pos} {args : List Expr} {env : Env} (hl : (apos.endLine == pos.line) = true) (hf : methodCallForm args.length (backTo pos (starEach args env)) [] = true)
    (e : eval (.Call (.Attribute o name apos) args [] pos) env = (do
      let ov ← attributeBase o name env (eval o env)
      standAt apos.atName
      methodCall o name apos pos env ov args.length (backTo pos (starEach args env)) [])) :
    eval (.Call (.Attribute o name apos) args [] pos) env = (do
      let ov ← attributeBase o name env (eval o env)
      standAt apos.atName
      let (f, first) ← holding [ov] (getMethod ov name (L2.plainOf o env))
      callWith pos f first (backTo pos (starEach args env)) []) := by
  rw [e]
  simp only [L2.mcall_line hf hl]

section
variable {prog : Program} {w : World} {A : Around} {R : Result → Shared → Prop} {s : Shared} {K : Frag} {mg mb : Str → Option Value} {C fI cc cda : Addr} {p : Str}
  {oc ccl cl kV doc pm ct : Value} {od cdd cld : Option Addr} {osl ccs csl : Array (Option Value)} {an : Option Addr} {vs : Array Value} {file q : Str} {tf : Tok} {p1 p2 q1 q2 q3 q4 q5 q6 q7 q8 q9 q10 : Pos} {ns : List (Str × NameKind)}
theorem xo_init (X : K.In s.heap) (hlim : s.heap.NoLimit) (hG : s.heap.Ns mainGlobals mg) (hsup : mg "super" = none) (hB : s.heap.Ns builtinsNs mb) (hbs : mb "super" = some (.type "super"))
    (hfo : K.lookup fI = some ⟨oc, od, .func (fnX "__init__" q (iPars p p1 p2) (iBody p q1 q2 q3 q4 q5 q6 q7 q8 q9 q10) (iSc ns) [("__class__", cc)] .none kV doc pm an (.ref cda) ct), osl⟩)
    (hsc : IScope p ns) (hcd : codeIn K (.ref cda) q = true) (hcode : K.lookup cda = some ⟨ccl, cdd, .fields vs, ccs⟩) (hvs : vs[2]? = some (.str file tf)) (hfile : ((prog.main.file : Str) == file) = true)
    (htop : (prog.main.scope.names.lookup ("super" : Str)).isSome = false) (hcell : K.lookup cc = some ⟨cl, cld, .cell (some (.ref C)), csl⟩)
    (hself : mroIn K C (.ref C) = some true) (hci : (clsIn K C).isSome = true) (hop : nsIn K cStatics "thirdparty.any" = some none) (hsi : ks_superIn K C C "__init__" = some (some (.builtin "Exception.__init__"))) (hE : subIn K (.ref C) (.type "Exception") = some true)
    (hsa : findIn K (.ref C) "__setattr__" = some (some (.builtin "object.__setattr__"))) (hov : excOver K C bmE = true) (htk : takerIn K C p = some none) (hh : hasDictIn K C = true) (hei : excInitIn K C bmE "Exception.__new__" = true)
    (hline : (q3.endLine == q5.line) = true) (hp : p ≠ "self") (hpd : (p == ("__debug__" : Str)) = false)
    {x t0 : Addr} {v : Value} {args : Args} (hbind : bindArgs (fnX "__init__" q (iPars p p1 p2) (iBody p q1 q2 q3 q4 q5 q6 q7 q8 q9 q10) (iSc ns) [("__class__", cc)] .none kV doc pm an (.ref cda) ct) args = pure [(("self" : Str), Value.ref x), (p, v)])
    (hx : s.heap.get? x = some (xo C t0 none)) (hxK : K.lookup x = none) (hroom : A.depth < recursionLimit)
    (hq : ∀ h' tk t dx, (∀ b o, b ≠ x → s.heap.get? b = some o → h'.get? b = some o) → s.heap.objs.size ≤ dx → dx ≠ x → h'.get? x = some (xo C t (some dx)) → h'.Ns1 dx (fun y => if y = p then some v else none) →
      R (.ok (.ret .none)) { s with heap := h', toks := tk }) :
    codeAny (model prog w) A (.call (.ref fI) args) R s := by
  have lt0 : x < s.heap.objs.size := Heap.lt_size hx
  have lks : List.lookup ("self" : Str) [(("self" : Str), Value.ref x), (p, v)].reverse = some (.ref x) := by
    have e : (("self" : Str) == p) = false := by simpa using fun z => hp z.symm
    show List.lookup ("self" : Str) [(p, v), (("self" : Str), Value.ref x)] = _
    simp [List.lookup, e]
  have lkp : List.lookup p [(("self" : Str), Value.ref x), (p, v)].reverse = some v := by
    show List.lookup p [(p, v), (("self" : Str), Value.ref x)] = _
    simp [List.lookup]
  refine ks_codeAny_call_defAt (binds := [("self", .ref x), (p, v)]) hroom (X _ _ hfo) rfl hlim (codeRec_of X hcd) rfl ?_ hsc.nocell ?_ ?_ rfl rfl rfl
  · exact .of_eq hbind
  · intro y hy
    rcases List.mem_cons.mp hy with rfl | hy
    · exact hsc.self
    · rcases List.mem_cons.mp hy with rfl | hy
      · exact hsc.par
      · cases hy
  intro h1 ns1 k1
  refine ks_wpAt_execs_cons (ks_wpAt_Expr_any ?_)
  refine ks_wpAt_MethodCall (he := line_call hline rfl (by first | rfl | with_unfolding_all rfl)) ?_
  have X1 : K.In h1 := X.keeps k1
  have kx : h1.get? x = some (xo C t0 none) := k1 _ _ hx
  obtain ⟨cd, hcl⟩ := Option.isSome_iff_exists.mp hci
  obtain ⟨oC, hC1, hC2⟩ : ∃ oC, h1.get? C = some oC ∧ oC.data = .cls cd := by
    unfold clsIn at hcl
    split at hcl
    · rename_i ho
      cases hcl
      exact ⟨_, X1 _ _ ho, rfl⟩
    · cases hcl
  refine ks_wpAt_super_base hsc.sup hsc.cls (by decide) rfl (X1 _ _ hfo) rfl rfl rfl (X1 _ _ hcode) rfl hvs hfile htop ?_
  refine ks_loadName_global rfl hsc.sup (loadGlobal_builtin (hG.keeps k1) hsup (hB.keeps k1) hbs ⟨rfl, ?_⟩)
  refine wpAny_loadName_free rfl hsc.cls rfl ⟨_, X1 _ _ hcell, rfl⟩ ?_
  refine wpAny_loadName_local rfl hsc.self ns1 (v := .ref x) lks ?_
  refine ks_wpAny_isType_cls hC1 hC2 ⟨rfl, ?_⟩
  refine ks_wpAny_call_super hC1 hC2 kx rfl (fun c e => nomatch e) (looks_mroIn X1 hself) (fun h2 e2 k2 => ?_)
  have X2 : K.In h2 := X1.keeps k2
  have kx2 := k2 _ _ kx
  have xC : x ≠ C := fun z => by
    rw [← z, kx] at hC1
    cases hC1
    cases hC2
  obtain ⟨nm, N', qn, bs, bm, hdct, sn, sub, ab, col, dd, k0, k1', k2', k3', k5', hC, hT⟩ := excInit_of X2 hei
  have hI : Looks (model prog w) h2 (isInstance (.ref x) (.type "Exception")) true := (InstAt.type (C := C) (od := none) ⟨kx2, rfl, rfl, trivial⟩).andThen (looks_subIn X2 hE)
  have hsi' := hsi
  unfold ks_superIn at hsi'
  rw [hcl, Option.bind_some] at hsi'
  refine kxs_getMethod kxs_Exception e2 (looks_opaque X2 hop) (l₀ := cd.mro) (l := (cd.mro.dropWhile (· != .ref C)).drop 1) ?_ rfl X2 hsi' hI xC (by decide) ?_
  · exact fun A Q E s k q => wpAny_bind ((looks_clsIn X2 hcl) A _ E s k (wpAny_pure q))
  have k3 : ∀ b o, h2.get? b = some o → (h2.push (kxs_mw "Exception.__init__" x)).get? b = some o := fun b o e => Heap.get?_push_of_some _ e
  refine kxs_callWith (i := "Exception.__init__") (x := x) (u := h2.objs.size) rfl ?_
  refine evalArgs_plain (spliced_cons ?_)
  refine wpAny_Name (wpAny_loadName_local rfl hsc.par ((ns1.keeps k2).keeps k3) (v := v) lkp ?_) hpd
  refine spliced_nil ⟨Heap.get?_push_at rfl rfl, ?_⟩
  refine ESX.call_bw (k3 _ _ hC) (k3 _ _ kx2) (Heap.get?_push_at rfl rfl) (by show 1 ≤ sizeLine; rw [sizeLine_eq]; omega) fun h4 t1 k4 e4 => ?_
  have ns4 : h4.Ns s.heap.objs.size fun y => List.lookup y [(("self" : Str), Value.ref x), (p, v)].reverse := by
    obtain ⟨o, es, ep, ho, r⟩ := (ns1.keeps k2).keeps k3
    exact ⟨o, es, ep, k4 _ _ (Nat.ne_of_gt lt0) ho, r⟩
  have X4 : K.In h4 := fun b o e => k4 b o (fun z => by
    rw [z, hxK] at e
    cases e) (k3 _ _ (X2 _ _ e))
  refine ks_wpAt_execs_cons (ks_wpAt_Assign_Attr ?_)
  refine wpAt_of_wpAny (wpAny_Name (wpAny_loadName_local rfl hsc.par ns4 (v := v) lkp ?_) hpd)
  refine wpAny_Name (wpAny_loadName_local rfl hsc.self ns4 (v := .ref x) lks ?_)
  refine set_plain X4 (ox := xo C t1 none) (od := none) ⟨e4, rfl, rfl, trivial⟩ hsa ?_
  refine xo_store X4 e4 hov htk hh fun h5 tk5 dx k5 n5 d5 e5 ns5 => ?_
  refine wpAt_of_wpAny (wpAny_execs_nil ?_)
  refine hq h5 tk5 t1 dx (fun b o hb e => k5 b o hb (k4 b o hb (k3 _ _ (k2 _ _ (k1 _ _ e))))) ?_ d5 e5 ns5
  exact Nat.le_trans (Nat.le_of_lt ns4.lt) n5
end
end Rw

set_option Elab.async false
set_option linter.all false
set_option maxRecDepth 100000
set_option maxHeartbeats 4000000
/-! the class of such an exception called, by position or by name -/
namespace Rw
open PySem PySem.W PySem.Calls PyProof.Rows HandSPX

section
variable {prog : Program} {w : World} {A : Around} {E : Value → Shared → Prop} {R : Result → Shared → Prop} {hp : Heap} {gs : Array GenState} {dr : Drawn} {tk : Nat} {os : OsState}
variable {nm qn : Str} {C N : Addr} {bs bm bmB : List Value} {hdct : Bool} {sn : List Str} {sub : List Value} {ab : Bool} {col : Option Bool} {dd : Option Addr} {k0 k1 k2 k3 k5 : Option Value} {B newId initId : String} {rest : List Value} {kw : List (Str × Value)}

theorem kw_check (F : ExcBaseFacts B newId initId bmB) (hT : ∀ X : String, bm.contains (.type X) = bmB.contains (.type X)) {M : Model} {Q : Unit → Shared → Prop}
    (cl : hp.get? C = some (excClassObj nm qn C N bs bm hdct sn sub ab col dd k0 k1 k2 k3 k5 newId)) (q0 : Q () ⟨hp, gs, dr, tk, os⟩) : wpAny M A (checkBuiltinCall newId ⟨.ref C :: rest, kw⟩) Q E ⟨hp, gs, dr, tk, os⟩ := by
  have inB : (Value.ref C :: bm).contains (.type B) = true := by rw [List.contains_cons, hT, F.hasB, Bool.or_true]
  have nostar := F.noStar
  simp only [checkBuiltinCall, F.newKind, F.newSplit, F.newRow]
  repeat (first | refine wpAny_loadPart_at cl ?_ | (refine wpAny_isSubtype_exc cl ?_; rw [inB]) | refine wpAny_staticBase_exc cl ?_ | refine wpAny_madeBy_exc cl ?_ | simp only [bne_self_eq_false, Bool.false_eq_true, if_false] | wp_step)
  exact q0

theorem kw_new (F : ExcBaseFacts B newId initId bmB) (hT : ∀ X : String, bm.contains (.type X) = bmB.contains (.type X))
    (cl : hp.get? C = some (excClassObj nm qn C N bs bm hdct sn sub ab col dd k0 k1 k2 k3 k5 newId))
    (q0 : R (.ok (.ret (.ref (hp.objs.size + 1)))) ⟨(hp.push (kdv_tup rest)).push (xo C hp.objs.size none), gs, dr, tk, os⟩) (sz : rest.length ≤ sizeLine) :
    codeAny (model prog w) A (.builtin newId ⟨.ref C :: rest, kw⟩) R ⟨hp, gs, dr, tk, os⟩ := by
  have ends := F.ends
  have inB : (Value.ref C :: bm).contains (.type B) = true := by rw [List.contains_cons, hT, F.hasB, Bool.or_true]
  have inA : (Value.ref C :: bm).contains (.type "AttributeError") = false := by rw [List.contains_cons, hT, F.noAttr]; rfl
  have inN : (Value.ref C :: bm).contains (.type "NameError") = false := by rw [List.contains_cons, hT, F.noName]; rfl
  refine codeAny_builtinAt F.entry ?_
  unfold Builtin.«BaseException.__new__»
  refine PySem.wpAt_bind ?_
  show PySem.wpAt _ _ _ (stack >>= _) _ _ _
  refine PySem.wpAt_bind (PySem.wpAt_stack fun p below => PySem.wpAt_of_wpAny ?_)
  wp_walk
  refine PySem.wpAt_of_wpAny ?_
  rw [F.owner]
  repeat (first | with_reducible refine wpAny_madeHere_exc F.canon cl ?_ | with_reducible refine wpAny_loadPart_at cl ?_ | (with_reducible refine wpAny_isSubtype_exc cl ?_; first | rw [inB] | rw [inA] | rw [inN]) | wp_step)
  show R _ _
  rw [Heap.size_push]
  exact q0

theorem kw_type_call (F : ExcBaseFacts B newId initId bmB) (hT : ∀ X : String, bm.contains (.type X) = bmB.contains (.type X)) {fI : Addr} {Q : PySem.Fin → Shared → Prop}
    (cl : hp.get? C = some (excClassObj nm qn C N bs bm hdct sn sub ab col dd k0 k1 k2 k3 k5 newId))
    (li : Looks (model prog w) hp (typeLookup (.ref C) "__init__") (some (.ref fI))) (lb : ∀ self, Looks (model prog w) hp (bindSpecial (.ref fI) self) (.ref fI, [self])) (sz : rest.length ≤ sizeLine)
    (q0 : codeAny (model prog w) A (.call (.ref fI) ⟨.ref (hp.objs.size + 1) :: rest, kw⟩)
      (fun r s' => match r with | .ok (.ret v) => v = .none ∧ Q (.done (.ret (.ref (hp.objs.size + 1)))) s' | .ok _ => False | .error e => E e s')
      ⟨(hp.push (kdv_tup rest)).push (xo C hp.objs.size none), gs, dr, tk, os⟩) :
    wpAny (model prog w) A (Builtin.«type.__call__» ⟨.ref C :: rest, kw⟩) Q E ⟨hp, gs, dr, tk, os⟩ := by
  repeat (first | with_reducible refine wpAny_loadPart_at cl ?_ | with_reducible refine wpAny_madeBy_exc cl ?_ | wp_step)
  refine codeAny_call_builtin_code (Code.quiet_builtin _ F.quiet) (kw_check F hT cl ?_)
  refine kw_new F hT cl ?_ sz
  show wpAny _ _ _ _ _ _
  have k : ∀ b o, hp.get? b = some o → ((hp.push (kdv_tup rest)).push (xo C hp.objs.size none)).get? b = some o := fun b o e => Heap.get?_push_of_some _ (Heap.get?_push_of_some _ e)
  have cl2 := k _ _ cl
  have made : ((hp.push (kdv_tup rest)).push (xo C hp.objs.size none)).get? (hp.objs.size + 1) = some (xo C hp.objs.size none) := by heap_get
  have inC : (Value.ref C :: bm).contains (.ref C) = true := by simp
  have li2 := li.keeps k
  have lb2 := (lb (.ref (hp.objs.size + 1))).keeps k
  unfold isInstance
  repeat (first | with_reducible refine wpAny_loadPart_at made ?_ | (with_reducible refine wpAny_isSubtype_exc cl2 ?_; rw [inC]) | wp_step)
  show wpAny _ _ (typeLookup (.ref C) _) _ _ _
  refine li2.at ?_
  refine wpAny_holding (wpAny_bind (lb2.at ?_))
  refine wpAny_bind (wpAny_call (codeAny_mono q0 fun r s' z => ?_))
  rcases r with e | (v | _ | _ | _) <;> first | exact z | exact z.elim | skip
  obtain ⟨rfl, z⟩ := z
  first
    | exact wpAny_pure (wpAny_pure z)
    | (wp_walk; exact z)

theorem kw_call (F : ExcBaseFacts B newId initId bmB) (hT : ∀ X : String, bm.contains (.type X) = bmB.contains (.type X)) {fI : Addr}
    (cl : hp.get? C = some (excClassObj nm qn C N bs bm hdct sn sub ab col dd k0 k1 k2 k3 k5 newId))
    (li : Looks (model prog w) hp (typeLookup (.ref C) "__init__") (some (.ref fI))) (lb : ∀ self, Looks (model prog w) hp (bindSpecial (.ref fI) self) (.ref fI, [self])) (sz : rest.length ≤ sizeLine)
    (q0 : codeAny (model prog w) (A.under (.builtin "type.__call__" ⟨.ref C :: rest, kw⟩)) (.call (.ref fI) ⟨.ref (hp.objs.size + 1) :: rest, kw⟩) (InitBack (hp.objs.size + 1) R)
      ⟨(hp.push (kdv_tup rest)).push (xo C hp.objs.size none), gs, dr, tk, os⟩) :
    codeAny (model prog w) A (.call (.ref C) ⟨rest, kw⟩) R ⟨hp, gs, dr, tk, os⟩ := by
  have g1 := tc_lookup
  have g2 := tc_bind (.ref C)
  have isT : (⟨hp, gs, dr, tk, os⟩ : Shared).TypeIs (.ref C) "type" := ⟨_, cl, rfl⟩
  refine codeAny_of_tree ?_
  show wpAny _ _ (callAny (.ref C) _) _ _ _
  repeat (any_goals (first | assumption | with_reducible refine wpAny_loadPart_at cl ?_ | wp_step))
  refine ⟨rfl, ?_⟩
  refine codeAny_call_builtin_at (Code.quiet_builtin _ (by decide +kernel)) entry_typeCall (wpAny_check_type_call_sub cl (kw_type_call F hT cl li lb sz ?_))
  refine codeAny_mono q0 fun r s' z => ?_
  rcases r with e | (v | _ | _ | _) <;> exact z
end
end Rw

set_option Elab.async false
set_option linter.all false
set_option maxRecDepth 100000
set_option maxHeartbeats 4000000
/-! own exceptions over the layer: made as values, made to be raised, read, asked for their class -/
namespace Rw
open PySem PySem.W PySem.Calls PyProof.Rows HandSPX

/-- the class at C, called with one value u by position, or by the name p: a new exception whose one attribute p is u -/
def WxCall (P : Program) (K : Frag) (C : Addr) (p : Str) : Prop :=
  ∀ (w : World) (A : Around) (R : Result → Shared → Prop) (s : Shared) (mg mb : Str → Option Value), K.In s.heap → s.heap.NoLimit → s.heap.Ns mainGlobals mg → mg "super" = none → s.heap.Ns builtinsNs mb → mb "super" = some (.type "super") →
    ∀ (u : Value) (args : Args), args = ⟨[u], []⟩ ∨ args = ⟨[], [(p, u)]⟩ → A.depth + 1 < recursionLimit →
    (∀ h' tk e t dx, (∀ b o, s.heap.get? b = some o → h'.get? b = some o) → s.heap.objs.size ≤ e → s.heap.objs.size ≤ dx → dx ≠ e → h'.get? e = some (xo C t (some dx)) → h'.Ns1 dx (fun y => if y = p then some u else none) →
      R (.ok (.ret (.ref e))) { s with heap := h', toks := tk }) →
    codeAny (model P w) A (.call (.ref C) args) R s

theorem in_new {K : Frag} {hp : Heap} (X : K.In hp) {x : Addr} (h : hp.objs.size ≤ x) : K.lookup x = none := by
  cases e : K.lookup x with
  | none => rfl
  | some o => exact absurd (Nat.lt_of_lt_of_le (Heap.lt_size (X _ _ e)) h) (Nat.lt_irrefl _)

section
variable {P : Program} {K : Frag} {C fI cc cda : Addr} {p : Str}
  {oc ccl cl kV doc pm ct : Value} {od cdd cld : Option Addr} {osl ccs csl : Array (Option Value)} {an : Option Addr} {vs : Array Value} {file q : Str} {tf : Tok} {p1 p2 q1 q2 q3 q4 q5 q6 q7 q8 q9 q10 : Pos} {ns : List (Str × NameKind)}
theorem wx_call (hfo : K.lookup fI = some ⟨oc, od, .func (fnX "__init__" q (iPars p p1 p2) (iBody p q1 q2 q3 q4 q5 q6 q7 q8 q9 q10) (iSc ns) [("__class__", cc)] .none kV doc pm an (.ref cda) ct), osl⟩)
    (hiC : findIn K (.ref C) "__init__" = some (some (.ref fI))) (hty : typeIn K (.ref fI) = some (.type "function"))
    (hsc : IScope p ns) (hcd : codeIn K (.ref cda) q = true) (hcode : K.lookup cda = some ⟨ccl, cdd, .fields vs, ccs⟩) (hvs : vs[2]? = some (.str file tf)) (hfile : ((P.main.file : Str) == file) = true)
    (htop : (P.main.scope.names.lookup ("super" : Str)).isSome = false) (hcell : K.lookup cc = some ⟨cl, cld, .cell (some (.ref C)), csl⟩)
    (hself : mroIn K C (.ref C) = some true) (hci : (clsIn K C).isSome = true) (hop : nsIn K cStatics "thirdparty.any" = some none) (hsi : ks_superIn K C C "__init__" = some (some (.builtin "Exception.__init__"))) (hE : subIn K (.ref C) (.type "Exception") = some true)
    (hsa : findIn K (.ref C) "__setattr__" = some (some (.builtin "object.__setattr__"))) (hov : excOver K C bmE = true) (htk : takerIn K C p = some none) (hh : hasDictIn K C = true) (hei : excInitIn K C bmE "Exception.__new__" = true)
    (hline : (q3.endLine == q5.line) = true) (hp : p ≠ "self") (hpd : (p == ("__debug__" : Str)) = false)
    (hbind : ∀ a u : Value, bindArgs (fnX "__init__" q (iPars p p1 p2) (iBody p q1 q2 q3 q4 q5 q6 q7 q8 q9 q10) (iSc ns) [("__class__", cc)] .none kV doc pm an (.ref cda) ct) ⟨[a, u], []⟩ = pure [(("self" : Str), a), (p, u)])
    (hbindK : ∀ a u : Value, bindArgs (fnX "__init__" q (iPars p p1 p2) (iBody p q1 q2 q3 q4 q5 q6 q7 q8 q9 q10) (iSc ns) [("__class__", cc)] .none kV doc pm an (.ref cda) ct) ⟨[a], [(p, u)]⟩ = pure [(("self" : Str), a), (p, u)]) :
    WxCall P K C p := by
  intro w A R s mg mb X hlim hG hsup hB hbs u args hargs room hq
  obtain ⟨nm, N', qn, bs, bm, hdct, sn, sub, ab, col, dd, k0, k1, k2, k3, k5, hC, hT⟩ := excInit_of X hei
  obtain ⟨hpp, gs, dr, tk, os⟩ := s
  have main : ∀ rest kw, args = ⟨rest, kw⟩ → rest.length ≤ sizeLine →
      bindArgs (fnX "__init__" q (iPars p p1 p2) (iBody p q1 q2 q3 q4 q5 q6 q7 q8 q9 q10) (iSc ns) [("__class__", cc)] .none kV doc pm an (.ref cda) ct) ⟨.ref (hpp.objs.size + 1) :: rest, kw⟩ = pure [(("self" : Str), .ref (hpp.objs.size + 1)), (p, u)] →
      codeAny (model P w) A (.call (.ref C) ⟨rest, kw⟩) R ⟨hpp, gs, dr, tk, os⟩ := by
    intro rest kw _ sz hb
    have k : ∀ b o, hpp.get? b = some o → ((hpp.push (kdv_tup rest)).push (xo C hpp.objs.size none)).get? b = some o := fun b o e => Heap.get?_push_of_some _ (Heap.get?_push_of_some _ e)
    have made : ((hpp.push (kdv_tup rest)).push (xo C hpp.objs.size none)).get? (hpp.objs.size + 1) = some (xo C hpp.objs.size none) := by heap_get
    have up : hpp.objs.size ≤ ((hpp.push (kdv_tup rest)).push (xo C hpp.objs.size none)).objs.size := by
      rw [Heap.size_push, Heap.size_push]
      exact Nat.le_trans (Nat.le_succ _) (Nat.le_succ _)
    refine kw_call PySem.F.excBase_Exception hT hC (looks_findIn X hiC) (fun self => bind_fn X self hty) sz ?_
    refine xo_init (X.keeps k) (hlim.keeps k) (hG.keeps k) hsup (hB.keeps k) hbs hfo hsc hcd hcode hvs hfile htop hcell hself hci hop hsi hE hsa hov htk hh hei hline hp hpd hb made (in_new X (Nat.le_succ _)) ?_ ?_
    · have e : (A.under (.builtin "type.__call__" ⟨.ref C :: rest, kw⟩)).depth = A.depth + 1 := by
        first | rfl | simp [Around.under, Code.weight, Code.isCreation, Code.isGuard, Code.isCaller, Code.frames, Code.isFrame, guardIds]
      rw [e]
      exact room
    · intro h' tk' t dx k' n' d' e' ns'
      have e2 : hpp.objs.size ≤ dx := Nat.le_trans up n'
      exact ⟨rfl, hq h' tk' (hpp.objs.size + 1) t dx (fun b o e => k' b o (Nat.ne_of_lt (Nat.lt_succ_of_lt (Heap.lt_size e))) (k b o e)) (Nat.le_succ _) e2 d' e' ns'⟩
  rcases hargs with rfl | rfl
  · exact main [u] [] rfl (by show 1 ≤ sizeLine; rw [sizeLine_eq]; omega) (hbind _ _)
  · exact main [] [(p, u)] rfl (Nat.zero_le _) (hbindK _ _)
end
end Rw

set_option Elab.async false
set_option linter.all false
set_option maxRecDepth 100000
set_option maxHeartbeats 4000000
namespace Rw
open PySem PySem.Spec PyProof.Rows L2

/-- a tracked exception: the class at C, its dict at d (none: no attributes) -/
def xoO (a C : Addr) (d : Option Addr) : HO := .ext fun h => ∃ t, h.get? a = some (xo C t d)
theorem xoO_ok {P : Program} {w : World} {H : Hp} {h : Heap} {a C t : Addr} {d : Option Addr} (e : h.get? a = some (xo C t d)) : ObjOk P w H h a (xoO a C d) :=
  ⟨⟨t, e⟩, ⟨_, e⟩, fun _ _ ⟨t', q⟩ k => ⟨t', k _ q⟩⟩
theorem xoO_at {P : Program} {w : World} {H : Hp} {h : Heap} {a C : Addr} {d : Option Addr} (hok : HOk P w H h) (e : H a = some (xoO a C d)) : ∃ t, h.get? a = some (xo C t d) :=
  (show ObjOk P w H h a (.ext fun h => ∃ t, h.get? a = some (xo C t d)) from hok a _ e).1

/-- what the written part tells of an own exception class -/
structure XcC (K : PySem.W.Frag) (C : Addr) : Prop where
  ci : (PySem.W.clsIn K C).isSome = true
  ga : PySem.W.findIn K (.ref C) "__getattribute__" = some (some (.builtin "BaseException.__getattribute__"))
  gg : PySem.W.findIn K (.ref C) "__getattr__" = some none
  exC : PySem.W.subIn K (.ref C) (.type "BaseException") = some true
  hd : PySem.W.hasDictIn K C = true
  ca : PySem.W.findIn K (.ref C) "__class__" = some (some (.builtin "object.__class__"))
  ob : PySem.W.mroIn K C (.type "object") = some true
  ty : PySem.W.typeIn K (.ref C) = some (.type "type")
  kp : PySem.W.keepIn K (.ref C) = true
/-- .. with the __init__ above -/
structure WxC (P : Program) (K : PySem.W.Frag) (C : Addr) (p : Str) : Prop extends XcC K C where
  call : WxCall P K C p
  no : PySem.W.findIn K (.ref C) p = some none
/-- .. without one -/
structure WnC (K : PySem.W.Frag) (C : Addr) : Prop extends XcC K C where
  ei : PySem.W.excInitIn K C bmE "Exception.__new__" = true
  ini : PySem.W.findIn K (.ref C) "__init__" = some (some (.builtin "Exception.__init__"))
structure WxK (K : PySem.W.Frag) : Prop where
  cg : PySem.W.specialIn K (.builtin "object.__class__") "__get__" = some (some (.builtin "getset_descriptor.__get__"))
  ct : PySem.W.takesIn K (.builtin "object.__class__") = some true

section
variable {X : Cx} {pins : List (Addr × Obj)} {σ : List (Option V)} {H : Hp} {s : Shared}
/-- two new objects, both tracked from now on -/
theorem laid2 {h' : Heap} {d e : Addr} {o1 o2 : HO} {t' : Nat} (I : Inv X pins σ H s) (k : ∀ b u, s.heap.get? b = some u → h'.get? b = some u) (hd : s.heap.objs.size ≤ d) (he : s.heap.objs.size ≤ e) (ne : d ≠ e)
    (n1 : ObjOk X.prog X.w (upd (upd H d o1) e o2) h' d o1) (n2 : ObjOk X.prog X.w (upd (upd H d o1) e o2) h' e o2) : Inv X pins σ (upd (upd H d o1) e o2) { s with heap := h', toks := t' } := by
  have fd : H d = none := I.hok.fresh hd
  have fe : H e = none := I.hok.fresh he
  have at_ : ∀ {b : Addr} {o : HO}, H b = some o → upd (upd H d o1) e o2 b = some o := by
    intro b o z
    rw [upd_ne (ne_of_none z fe), upd_ne (ne_of_none z fd)]
    exact z
  have old : ∀ {b : Addr} {o : Obj}, s.heap.get? b = some o → b ≠ d ∧ b ≠ e := fun z => ⟨Nat.ne_of_lt (Nat.lt_of_lt_of_le (Heap.lt_size z) hd), Nat.ne_of_lt (Nat.lt_of_lt_of_le (Heap.lt_size z) he)⟩
  refine I.un ⟨fun b o z _ _ _ => k b o z, fun b o z _ _ _ => ⟨o.slots, k b o z⟩, fun b o z n _ => ?_, fun b o z _ => ⟨o, k b o z⟩, fun b xs z => at_ z, fun b o u z => at_ z, fun b ps z => ⟨#[], by rw [at_ z]; simp⟩⟩ ?_
  · rw [upd_ne (old z).2, upd_ne (old z).1]
    exact n
  · intro b o z
    by_cases h1 : b = e
    · subst h1
      rw [upd_same] at z
      cases z
      exact n2
    · rw [upd_ne h1] at z
      by_cases h2 : b = d
      · subst h2
        rw [upd_same] at z
        cases z
        exact n1
      · rw [upd_ne h2] at z
        exact (I.hok b o z).stay (fun c u _ q => k c u q) (fun c q => at_ q) fun c xs q => at_ q

theorem relO_one {p : Str} {v : V} {u : Value} (r : RelV v u) (f : Str) : RelO (List.lookup f [(p, v)]) (if f = p then some u else none) := by
  by_cases h : f = p
  · subst h
    rw [if_pos rfl]
    have e : List.lookup f [(f, v)] = some v := by simp [List.lookup]
    rw [e]
    exact r
  · rw [if_neg h]
    have z : (f == p) = false := by simpa using h
    have e : List.lookup f [(p, v)] = none := by simp [List.lookup, z]
    rw [e]
    trivial

/-- the class called, the raw end -/
theorem wx_run {C : Addr} {p : Str} {u : Value} {args : Args} {Q : Value → Shared → Prop} (W : WxC X.prog X.K C p) (I : Inv X pins σ H s) (gs : X.mg "super" = none) (hargs : args = ⟨[u], []⟩ ∨ args = ⟨[], [(p, u)]⟩) (room : X.A.depth + 1 < recursionLimit)
    (hq : ∀ h' tk e t dx, (∀ b o, s.heap.get? b = some o → h'.get? b = some o) → s.heap.objs.size ≤ e → s.heap.objs.size ≤ dx → dx ≠ e → h'.get? e = some (xo C t (some dx)) → h'.Ns1 dx (fun y => if y = p then some u else none) →
      Q (.ref e) { s with heap := h', toks := tk }) : wpAny (model X.prog X.w) X.A (call (.ref C) args.pos args.kw) Q X.xe s := by
  obtain ⟨mb, b1, b2⟩ := I.mod.blt
  refine wpAny_call (W.call X.w X.A _ s X.mg mb I.kIn I.nolimit (I.mod.glob.keeps I.bk) gs (b1.keeps I.bk) ((b2 _ (by decide)).trans PyProof.Rows.Boot.«super») u args hargs room ?_)
  intro h' tk e t dx k h1 h2 ne g n
  exact hq h' tk e t dx k h1 h2 ne g n

/-- C(e) as a value -/
def tMkX (C : Addr) (p : Str) (te : TE) : TE := fun σ H Q => te σ H fun v H1 => ∀ a d, H1 a = none → H1 d = none → d ≠ a → Q (.ref a) (upd (upd H1 d (.xd [(p, v)])) a (xoO a C (some d)))

section
variable {X : Cx} {C : Addr} {p x : Str} {e : Expr} {te : TE} {pn pos kpos : Pos}
theorem made_value {pins : List (Addr × Obj)} {σ : List (Option V)} {H : Hp} {s : Shared} {Q : VK} {v : V} {u : Value} {args : Args} (W : WxC X.prog X.K C p) (room : X.A.depth + 1 < recursionLimit) (gs : X.mg "super" = none)
    (hargs : args = ⟨[u], []⟩ ∨ args = ⟨[], [(p, u)]⟩) (I : Inv X pins σ H s) (r : RelV v u) (q : ∀ a d, H a = none → H d = none → d ≠ a → Q (.ref a) (upd (upd H d (.xd [(p, v)])) a (xoO a C (some d)))) :
    wpAny (model X.prog X.w) X.A (call (.ref C) args.pos args.kw) (EP X pins σ Q) X.xe s := by
  refine wx_run W I gs hargs room fun h' tk a t d k h1 h2 ne g n => ?_
  have n1 : ObjOk X.prog X.w (upd (upd H d (.xd [(p, v)])) a (xoO a C (some d))) h' d (.xd [(p, v)]) := ⟨_, n, relO_one r⟩
  exact ⟨.ref a, _, laid2 (t' := tk) I k h2 h1 ne n1 (xoO_ok g), rfl, q a d (I.hok.fresh h1) (I.hok.fresh h2) ne⟩
theorem pe_mkX (W : WxC X.prog X.K C p) (room : X.A.depth + 1 < recursionLimit) (gs : X.mg "super" = none) (hg : Gl X x) (hm : X.mg x = some (.ref C)) (he : PE X e te) (hdb : (x == ("__debug__" : Str)) = false := by decide)
    (hs : starEach [e] X.env = (false, eval e X.env) :: starEach [] X.env := by rfl) (hpl : (backTo pos (starEach [] X.env)).any (·.1) = false := by rfl) : PE X (.Call (.Name x pn) [e] [] pos) (tMkX C p te) := by
  refine ⟨fun pins s σ H Q I h => ?_⟩
  refine wpAny_Call_Name_kw (ld_glob I hg hm ?_ hdb)
  refine PySem.W.callWith_K (h₀ := X.base) I.ok.mod.kin W.kp ?_ hs hpl
  rw [hs]
  show wpAny _ _ (spliced ((false, eval e X.env) :: backTo pos (starEach [] X.env))) _ _ s
  refine Calls.spliced_cons (thn (he.run pins s σ H _ I h) fun u s1 ⟨v, H1, I1, r1, q1⟩ => ?_)
  exact Calls.spliced_nil ⟨I1.kIn, made_value (args := ⟨[u], []⟩) W room gs (.inl rfl) I1 r1 q1⟩
theorem pe_mkXK (W : WxC X.prog X.K C p) (room : X.A.depth + 1 < recursionLimit) (gs : X.mg "super" = none) (hg : Gl X x) (hm : X.mg x = some (.ref C)) (he : PE X e te) (hdb : (x == ("__debug__" : Str)) = false := by decide)
    (hpl : ((backTo pos (starEach [] X.env)).any (·.1) || (backToKw pos (keywordEach [⟨some p, e, kpos⟩] X.env)).any (·.1.isNone)) = false := by rfl) (hall : (backToKw pos (keywordEach [⟨some p, e, kpos⟩] X.env)).all (·.1.isSome) = true := by rfl)
    (hks : (backToKw pos (keywordEach [⟨some p, e, kpos⟩] X.env)).filterMap (·.1) = [p] := by rfl) : PE X (.Call (.Name x pn) [] [⟨some p, e, kpos⟩] pos) (tMkX C p te) := by
  refine ⟨fun pins s σ H Q I h => ?_⟩
  refine wpAny_Call_Name_kw (ld_glob I hg hm ?_ hdb)
  refine PySem.W.callWith_KW0 (h₀ := X.base) I.ok.mod.kin W.kp hall ?_ hpl
  have hk : PK X [⟨some p, e, kpos⟩] (tCons te tNil) := pk_cons he pk_nil
  refine thn (hk.run pos pins s σ H (fun vs H1 => match vs with
    | [v] => ∀ a d, H1 a = none → H1 d = none → d ≠ a → Q (.ref a) (upd (upd H1 d (.xd [(p, v)])) a (xoO a C (some d)))
    | _ => False) I h) fun ws s1 ⟨zs, H1, I1, rz, q1⟩ => ?_
  match zs, rz, q1 with
  | [v], rz, q1 =>
    obtain ⟨u, rfl, ru⟩ := vals1 rz
    refine ⟨I1.kIn, ?_⟩
    rw [hks]
    exact made_value (args := ⟨[], [(p, u)]⟩) W room gs (.inr rfl) I1 ru q1
  | [], _, q1 => exact q1.elim
  | _ :: _ :: _, _, q1 => exact q1.elim
end
/-- raised: C(e) makes it, its dict tracked, itself let go -/
def tMkR (C : Addr) (p : Str) (te : TE) : L2.St → Hp → XK → Prop := fun σ H Q => te σ H fun v H1 => ∀ d, H1 d = none → Q (.ref C) (some d) (upd H1 d (.xd [(p, v)]))
theorem pmk_x (W : WxC X.prog X.K C p) (room : X.A.depth + 1 < recursionLimit) (gs : X.mg "super" = none) (hg : Gl X x) (hm : X.mg x = some (.ref C)) (he : PE X e te) (hdb : (x == ("__debug__" : Str)) = false := by decide)
    (hs : starEach [e] X.env = (false, eval e X.env) :: starEach [] X.env := by rfl) (hpl : (backTo pos (starEach [] X.env)).any (·.1) = false := by rfl) : PMk X (.Call (.Name x pn) [e] [] pos) (tMkR C p te) := by
  intro pins s σ H Q I h
  refine wpAny_Call_Name_kw (ld_glob I hg hm ?_ hdb)
  refine PySem.W.callWith_K (h₀ := X.base) I.ok.mod.kin W.kp ?_ hs hpl
  rw [hs]
  show wpAny _ _ (spliced ((false, eval e X.env) :: backTo pos (starEach [] X.env))) _ _ s
  refine Calls.spliced_cons (thn (he.run pins s σ H _ I h) fun u s1 ⟨v, H1, I1, r1, q1⟩ => ?_)
  refine Calls.spliced_nil ⟨I1.kIn, ?_⟩
  refine wx_run (args := ⟨[u], []⟩) W I1 gs (.inl rfl) room fun h' tk a t d k h1 h2 ne g n => ?_
  -- the ground: all but the exception itself
  obtain ⟨G, g1, g2⟩ := restrict h' fun b => decide (b ≠ a)
  have ga : G.get? a = none := g2 a (by simp)
  have gk : ∀ b, b ≠ a → G.get? b = h'.get? b := fun b hb => g1 b (decide_eq_true hb)
  have gs' : ∀ b o, G.get? b = some o → h'.get? b = some o := fun b o z => by
    by_cases hb : b = a
    · rw [hb, ga] at z
      cases z
    · rw [← gk b hb]
      exact z
  have kG : ∀ b o, s1.heap.get? b = some o → G.get? b = some o := fun b o z => by
    rw [gk b (Nat.ne_of_lt (Nat.lt_of_lt_of_le (Heap.lt_size z) h1))]
    exact k b o z
  have nG : G.Ns1 d (fun y => if y = p then some u else none) := n.at fun o z => (gk d ne).trans z
  have n1 : ObjOk X.prog X.w (upd H1 d (.xd [(p, v)])) G d (.xd [(p, v)]) := ⟨_, nG, relO_one r1⟩
  have J : Inv X pins σ (upd H1 d (.xd [(p, v)])) { s1 with heap := G, toks := tk } := I1.laid kG h2 n1
  exact ⟨a, _, _, { s1 with heap := G, toks := tk }, _, .ref C, some d, rfl, J, gs', ga, g, ⟨rfl, rfl⟩, rfl, rfl, by rw [upd_ne (Ne.symm ne)]; exact I1.hok.fresh h1, rfl, I1.bare, raises_own W.exC W.ty, q1 d (I1.hok.fresh h2)⟩

/-- C(), a class without __init__ -/
theorem pe_mkN (W : WnC X.K C) (hg : Gl X x) (hm : X.mg x = some (.ref C)) (hdb : (x == ("__debug__" : Str)) = false := by decide) :
    PE X (.Call (.Name x pn) [] [] pos) (fun _ H Q => ∀ a, H a = none → Q (.ref a) (upd H a (xoO a C none))) := by
  refine ⟨fun pins s σ H Q I h => ?_⟩
  refine wpAny_Call_Name_kw (ld_glob I hg hm ?_ hdb)
  refine PySem.W.callWith_K0 I.kIn W.kp ?_
  obtain ⟨nm, N', qn, bs, bm, hdct, sn, sub, ab, col, dd, k0, k1, k2, k3, k5, hC, hT⟩ := PySem.W.excInit_of I.kIn W.ei
  have li : PySem.W.Looks (model X.prog X.w) s.heap (typeLookup (.ref C) "__init__") (some (.builtin "Exception.__init__")) := PySem.W.looks_findIn I.kIn W.ini
  obtain ⟨hp, gs, dr, tk, os⟩ := s
  refine PySem.W.call_B PySem.F.excBase_Exception hT hC li (Nat.zero_le _) fun h' k he ht => ?_
  have n : H (hp.objs.size + 1) = none := I.hok.fresh (Nat.le_succ _)
  exact ⟨.ref (hp.objs.size + 1), _, I.laid (t' := tk) k (Nat.le_succ _) (xoO_ok he), rfl, h _ n⟩

/-- e.f of a tracked exception -/
theorem pe_xoF (hb : attributeBase e p X.env (eval e X.env) = eval e X.env := by rfl) (he : PE X e te) :
    PE X (.Attribute e p pos) (fun σ H Q => te σ H fun v H1 => ∃ (a D d : Addr) (fs : List (Str × V)) (y : V), v = .ref a ∧ H1 a = some (xoO a D (some d)) ∧ H1 d = some (.xd fs) ∧ XcC X.K D ∧ PySem.W.findIn X.K (.ref D) p = some none ∧ fs.lookup p = some y ∧ Q y H1) := by
  refine ⟨fun pins s σ H Q I h => ?_⟩
  refine attr_of hb (thn (he.run pins s σ H _ I h) fun u s1 hh => ?_)
  obtain ⟨v, H1, I1, r1, a, D, d, fs, y, rfl, ha, hd, T, no, lk, q⟩ := hh
  cases r1
  obtain ⟨t, ho⟩ := xoO_at I1.hok ha
  obtain ⟨mA, hns, hr⟩ := (show ObjOk X.prog X.w H1 s1.heap d (.xd fs) from I1.hok d _ hd)
  obtain ⟨od, hod, hl⟩ := lookIn_ns hns
  obtain ⟨u, hu, ru⟩ := RelO.some_of (v := y) (o := mA p) (by rw [← lk]; exact hr p)
  have J : PySem.W.InstAt s1.heap a (xo D t (some d)) D (some od) := ⟨ho, rfl, rfl, hod⟩
  exact HandSPX.exc_get I1.kIn J T.ga T.gg T.exC (PySem.W.findObj_own T.hd no rfl (by rw [hl, hu])) (handed_of ru) ⟨y, H1, I1.tok _, ru, q⟩
/-- isinstance(e, c), e a tracked exception -/
def rIsX (K : PySem.W.Frag) : List V → Hp → VK → Prop := fun xs H Q => ∃ (a D : Addr) (d : Option Addr) (c : V) (cv : Value) (b : Bool), xs = [.ref a, c] ∧ H a = some (xoO a D d) ∧ (∀ dd, d = some dd → ∃ fs, H dd = some (.xd fs)) ∧ XcC K D ∧ ClsV c cv ∧ PySem.W.kitOne K (.ref D) cv = some b ∧ Q (.bl b) H
theorem call_isX (G : WxK X.K) : CallR X (.builtin "isinstance") (rIsX X.K) := by
  intro pins s σ H xs us Q I r h
  obtain ⟨a, D, d, c, cv, b, rfl, ha, hd, T, hcv, e, q⟩ := h
  obtain ⟨u1, u2, rfl, r1, r2⟩ := vals2 r
  cases r1
  have e2 := hcv.eq r2
  subst e2
  obtain ⟨t, ho⟩ := xoO_at I.hok ha
  have J : ∃ od, PySem.W.InstAt s.heap a (xo D t d) D od := by
    cases d with
    | none => exact ⟨none, ho, rfl, rfl, trivial⟩
    | some dd =>
      obtain ⟨fs, hf⟩ := hd dd rfl
      obtain ⟨mA, hns, _⟩ := (show ObjOk X.prog X.w H s.heap dd (.xd fs) from I.hok dd _ hf)
      obtain ⟨od, hod, _⟩ := lookIn_ns hns
      exact ⟨some od, ho, rfl, rfl, hod⟩
  obtain ⟨od, J⟩ := J
  exact PySem.W.kia_one (PySem.W.kitx_exc (ox := xo D t d) (od := od) T.ci T.ga T.gg T.exC T.ca G.cg G.ct T.ob) I.kIn J e (fun z => nomatch z) fun tk => ⟨.bl b, H, I.kept (t' := tk) fun _ _ z => z, rfl, q⟩
/-- isinstance(e, c), e the exception that an except suite holds -/
def rIsH (K : PySem.W.Frag) (a D : Addr) (d : Option Addr) : List V → Hp → VK → Prop := fun xs H Q => ∃ (c : V) (cv : Value) (b : Bool), xs = [.ref a, c] ∧ (∀ dd, d = some dd → ∃ fs, H dd = some (.xd fs)) ∧ ClsV c cv ∧ PySem.W.kitOne K (.ref D) cv = some b ∧ Q (.bl b) H
theorem call_isH {a D : Addr} {d : Option Addr} {oe : Obj} {pn : List (Addr × Obj)} (G : WxK X.K) (T : XcC X.K D) (hz : Zc (.ref D) d oe) (hf : ∃ vs, oe.data = .fields vs) : CallR (X.suite a ((a, oe) :: pn)) (.builtin "isinstance") (rIsH X.K a D d) := by
  intro pins s σ H xs us Q I r h
  obtain ⟨c, cv, b, rfl, hd, hcv, e, q⟩ := h
  obtain ⟨u1, u2, rfl, r1, r2⟩ := vals2 r
  cases r1
  have e2 := hcv.eq r2
  subst e2
  obtain ⟨ho, _⟩ := I.pin (a, oe) (List.mem_append.mpr (.inl List.mem_cons_self))
  obtain ⟨vs, hv⟩ := hf
  have nc : PySem.W.notCls oe = true := by unfold PySem.W.notCls; rw [hv] <;> rfl
  have J : ∃ od, PySem.W.InstAt s.heap a oe D od := by
    cases d with
    | none => exact ⟨none, ho, hz.1, nc, by rw [hz.2] <;> trivial⟩
    | some dd =>
      obtain ⟨fs, hf⟩ := hd dd rfl
      obtain ⟨mA, hns, _⟩ := (show ObjOk X.prog X.w H s.heap dd (.xd fs) from I.hok dd _ hf)
      obtain ⟨od, hod, _⟩ := lookIn_ns hns
      exact ⟨some od, ho, hz.1, nc, by rw [hz.2]; exact hod⟩
  obtain ⟨od, J⟩ := J
  exact PySem.W.kia_one (PySem.W.kitx_exc (ox := oe) (od := od) T.ci T.ga T.gg T.exC T.ca G.cg G.ct T.ob) I.kIn J e (fun z => nomatch z) fun tk => ⟨.bl b, H, I.kept (t' := tk) fun _ _ z => z, rfl, q⟩
/-- .. whatever its class: that it is D is asked -/
def rIsH2 (K : PySem.W.Frag) (a : Addr) (cls : Value) (d : Option Addr) : List V → Hp → VK → Prop := fun xs H Q => ∃ (D : Addr) (c : V) (cv : Value) (b : Bool), cls = .ref D ∧ XcC K D ∧ xs = [.ref a, c] ∧ (∀ dd, d = some dd → ∃ fs, H dd = some (.xd fs)) ∧ ClsV c cv ∧ PySem.W.kitOne K (.ref D) cv = some b ∧ Q (.bl b) H
theorem call_isH2 {a : Addr} {cls : Value} {d : Option Addr} {oe : Obj} {pn : List (Addr × Obj)} (G : WxK X.K) (hz : Zc cls d oe) (hf : ∃ vs, oe.data = .fields vs) : CallR (X.suite a ((a, oe) :: pn)) (.builtin "isinstance") (rIsH2 X.K a cls d) := by
  intro pins s σ H xs us Q I r h
  obtain ⟨D, c, cv, b, rfl, T, h⟩ := h
  exact call_isH G T hz hf pins s σ H xs us Q I r ⟨c, cv, b, h⟩
end
end Rw

set_option Elab.async false
set_option linter.all false
set_option maxRecDepth 100000
set_option maxHeartbeats 4000000
/-! the head's facts, with own exception classes that have the __init__ above -/
namespace Rw
open PySem PySem.Spec PyProof.Rows L2 PySem.W
/-- one such class: its name, its parameter, the text of its __init__ -/
structure XI where
  cls : Str
  par : Str
  qual : Str
  st : Stmt
abbrev FnI : Type := Option (Str × Str × Arguments × FuncBody × Scope × Addr × Addr)
def iAd (K : Frag) (x : Str) : Addr := He.fAd K (x, some "__init__")
def fnI (K : Frag) (x : Str) : FnI := match K.lookup (iAd K x) with
  | some ⟨_, _, .func fd, _⟩ => some (fd.name, fd.qualname, fd.params, fd.body, fd.scope, fd.globals, fd.builtins)
  | _ => none
def XI.val (d : XI) : FnI := some ("__init__", d.qual, defArgs d.st, .stmts (defBody d.st), defScope d.st, mainGlobals, builtinsNs)
def xcB (K : Frag) (C : Addr) : Bool :=
  (clsIn K C).isSome && (decide (findIn K (.ref C) "__getattribute__" = some (some (.builtin "BaseException.__getattribute__"))) && (decide (findIn K (.ref C) "__getattr__" = some none) && (decide (subIn K (.ref C) (.type "BaseException") = some true) &&
    (hasDictIn K C && (decide (findIn K (.ref C) "__class__" = some (some (.builtin "object.__class__"))) && (decide (mroIn K C (.type "object") = some true) && (decide (typeIn K (.ref C) = some (.type "type")) && keepIn K (.ref C))))))))
theorem xcB_ok {K : Frag} {C : Addr} (h : xcB K C = true) : XcC K C := by
  unfold xcB at h
  simp only [Bool.and_eq_true, decide_eq_true_eq] at h
  obtain ⟨h1, h2, h3, h4, h5, h6, h7, h8, h9⟩ := h
  exact ⟨h1, h2, h3, h4, h5, h6, h7, h8, h9⟩
def wnB (K : Frag) (C : Addr) : Bool := xcB K C && (excInitIn K C bmE "Exception.__new__" && decide (findIn K (.ref C) "__init__" = some (some (.builtin "Exception.__init__"))))
theorem wnB_ok {K : Frag} {C : Addr} (h : wnB K C = true) : WnC K C := by
  unfold wnB at h
  simp only [Bool.and_eq_true, decide_eq_true_eq] at h
  exact ⟨xcB_ok h.1, h.2.1, h.2.2⟩
def wkB (K : Frag) : Bool := decide (specialIn K (.builtin "object.__class__") "__get__" = some (some (.builtin "getset_descriptor.__get__"))) && decide (takesIn K (.builtin "object.__class__") = some true)
theorem wkB_ok {K : Frag} (h : wkB K = true) : WxK K := by
  unfold wkB at h
  simp only [Bool.and_eq_true, decide_eq_true_eq] at h
  exact ⟨h.1, h.2⟩
def filB (P : Program) : Option Value → Bool
  | some (.str file _) => (P.main.file : Str) == file
  | _ => false
/-- its function's own parts: no defaults, its code, its cell -/
def ifB (P : Program) (K : Frag) (x : Str) (q : Str) : Bool := match K.lookup (iAd K x) with
  | some ⟨_, _, .func ⟨_, _, _, _, _, _, cl, .none, _, _, _, _, .ref cda, _, _⟩, _⟩ => codeIn K (.ref cda) q && ((match K.lookup cda with
    | some ⟨_, _, .fields vs, _⟩ => filB P vs[2]?
    | _ => false) && (match cl with
    | [(n, cc)] => decide (n = "__class__") && (match K.lookup cc with
      | some ⟨_, _, .cell (some (.ref D)), _⟩ => decide (D = He.ga K x)
      | _ => false)
    | _ => false))
  | _ => false
theorem ifB_ok {P : Program} {K : Frag} {x q : Str} (h : ifB P K x q = true) : ∃ (oc : Value) (od : Option Addr) (n1 n2 : Str) (n3 : Arguments) (n4 : FuncBody) (n5 : Scope) (n6 cc : Addr) (kV doc pm : Value) (an : Option Addr) (cda : Addr) (ct : Value) (n15 : Addr) (osl : Array (Option Value)),
    K.lookup (iAd K x) = some ⟨oc, od, .func ⟨n1, n2, n3, n4, n5, n6, [("__class__", cc)], .none, kV, doc, pm, an, .ref cda, ct, n15⟩, osl⟩ ∧ codeIn K (.ref cda) q = true ∧
    (∃ (ccl : Value) (cdd : Option Addr) (vs : Array Value) (ccs : Array (Option Value)) (file : Str) (tf : Tok), K.lookup cda = some ⟨ccl, cdd, .fields vs, ccs⟩ ∧ vs[2]? = some (.str file tf) ∧ ((P.main.file : Str) == file) = true) ∧
    ∃ (cl : Value) (cld : Option Addr) (csl : Array (Option Value)), K.lookup cc = some ⟨cl, cld, .cell (some (.ref (He.ga K x))), csl⟩ := by
  unfold ifB at h
  split at h
  · rename_i oc od n1 n2 n3 n4 n5 n6 cl kV doc pm an cda ct n15 osl e
    simp only [Bool.and_eq_true] at h
    obtain ⟨h1, h2, h3⟩ := h
    split at h3
    · rename_i n cc
      simp only [Bool.and_eq_true, decide_eq_true_eq] at h3
      obtain ⟨rfl, h3⟩ := h3
      split at h3
      · rename_i cl cld D csl ec
        have eD : D = He.ga K x := of_decide_eq_true h3
        subst eD
        split at h2
        · rename_i ccl cdd vs ccs ek
          unfold filB at h2
          split at h2
          · rename_i file tf ev
            exact ⟨oc, od, n1, n2, n3, n4, n5, n6, cc, kV, doc, pm, an, cda, ct, n15, osl, e, h1, ⟨ccl, cdd, vs, ccs, file, tf, ek, ev, h2⟩, cl, cld, csl, ec⟩
          · cases h2
        · cases h2
      · cases h3
    · cases h3
  · cases h
def xiB (P : Program) (K : Frag) (x p q : Str) : Bool :=
  xcB K (He.ga K x) && (ifB P K x q && (decide (findIn K (.ref (He.ga K x)) "__init__" = some (some (.ref (iAd K x)))) && (decide (typeIn K (.ref (iAd K x)) = some (.type "function")) && (!(P.main.scope.names.lookup ("super" : Str)).isSome &&
    (decide (mroIn K (He.ga K x) (.ref (He.ga K x)) = some true) && (decide (nsIn K cStatics "thirdparty.any" = some none) && (decide (ks_superIn K (He.ga K x) (He.ga K x) "__init__" = some (some (.builtin "Exception.__init__"))) && (decide (subIn K (.ref (He.ga K x)) (.type "Exception") = some true) &&
      (decide (findIn K (.ref (He.ga K x)) "__setattr__" = some (some (.builtin "object.__setattr__"))) && (excOver K (He.ga K x) bmE && (decide (takerIn K (He.ga K x) p = some none) && (excInitIn K (He.ga K x) bmE "Exception.__new__" && decide (findIn K (.ref (He.ga K x)) p = some none)))))))))))))
/-- such a text -/
structure XiT (p : Str) (st : Stmt) : Prop where
  ex : ∃ (p1 p2 q1 q2 q3 q4 q5 q6 q7 q8 q9 q10 : Pos) (ns : List (Str × NameKind)), defArgs st = iPars p p1 p2 ∧ defBody st = iBody p q1 q2 q3 q4 q5 q6 q7 q8 q9 q10 ∧ defScope st = iSc ns ∧ IScope p ns ∧ (q3.endLine == q5.line) = true ∧
    (∀ (q : Str) (cc : Addr) (kV doc pm : Value) (an : Option Addr) (cda : Addr) (ct a u : Value), bindArgs (fnX "__init__" q (iPars p p1 p2) (iBody p q1 q2 q3 q4 q5 q6 q7 q8 q9 q10) (iSc ns) [("__class__", cc)] .none kV doc pm an (.ref cda) ct) ⟨[a, u], []⟩ = pure [(("self" : Str), a), (p, u)] ∧
      bindArgs (fnX "__init__" q (iPars p p1 p2) (iBody p q1 q2 q3 q4 q5 q6 q7 q8 q9 q10) (iSc ns) [("__class__", cc)] .none kV doc pm an (.ref cda) ct) ⟨[a], [(p, u)]⟩ = pure [(("self" : Str), a), (p, u)])
theorem wx_of {P : Program} {K : Frag} {x p q : Str} {st : Stmt} (T : XiT p st) (e : fnI K x = (XI.mk x p q st).val) (b : xiB P K x p q = true) (hp : p ≠ "self") (hpd : (p == ("__debug__" : Str)) = false) : WxC P K (He.ga K x) p := by
  unfold xiB at b
  simp only [Bool.and_eq_true, decide_eq_true_eq, Bool.not_eq_true'] at b
  obtain ⟨b1, b2, b3, b4, b5, b6, b7, b8, b9, b10, b11, b12, b13, b14⟩ := b
  obtain ⟨oc, od, n1, n2, n3, n4, n5, n6, cc, kV, doc, pm, an, cda, ct, n15, osl, l, hcd, ⟨ccl, cdd, vs, ccs, file, tf, hk, hv, hf⟩, cl, cld, csl, hc⟩ := ifB_ok b2
  unfold fnI at e
  rw [l] at e
  have e2 : (some (n1, n2, n3, n4, n5, n6, n15) : FnI) = (some (("__init__" : Str), q, defArgs st, FuncBody.stmts (defBody st), defScope st, mainGlobals, builtinsNs) : FnI) := e
  simp only [Option.some.injEq, Prod.mk.injEq] at e2
  obtain ⟨rfl, rfl, rfl, rfl, rfl, rfl, rfl⟩ := e2
  obtain ⟨p1, p2, q1, q2, q3, q4, q5, q6, q7, q8, q9, q10, ns, h1, h2, h3, hs, hl, hb⟩ := T.ex
  rw [h1, h2, h3] at l
  refine ⟨xcB_ok b1, wx_call l b3 b4 hs hcd hk hv hf b5 hc b6 (xcB_ok b1).ci b7 b8 b9 b10 b11 b12 (xcB_ok b1).hd b13 hl hp hpd (fun a u => (hb _ cc kV doc pm an cda ct a u).1) (fun a u => (hb _ cc kV doc pm an cda ct a u).2), b14⟩

/-! ### the Hook -/
abbrev AlX : Type := Bool × List He.FnW × List FnI
def obsX (n : Nat) (fa : List He.Fa) (fn : List He.DefD) (xi : List XI) (ex : Frag → Bool) (g : Addr → Option Obj) : AlX :=
  (((fa.all fun f => f.ok (frR n g)) && fn.all fun d => d.ok (frR n g)) && ex (frR n g), fn.map (fun d => He.fnW (frR n g) d.at_), xi.map fun d => fnI (frR n g) d.cls)
structure SaysX (fa : List He.Fa) (fn : List He.DefD) (xi : List XI) (ex : Frag → Bool) (K : Frag) : Prop where
  base : He.SaysD fa fn K
  more : ex K = true
  inits : xi.map (fun d => fnI K d.cls) = xi.map XI.val
def hookX (n : Nat) (fa : List He.Fa) (fn : List He.DefD) (xi : List XI) (ex : Frag → Bool) : Hook where
  α := AlX
  obs := fun s => obsX n fa fn xi ex s.heap.get?
  val := fun _ => (true, fn.map He.DefD.val, xi.map XI.val)
  says := fun _ h => ∃ K : Frag, K.In h ∧ SaysX fa fn xi ex K
  of := fun _ s e => by
    have e1 : (((fa.all fun f => f.ok (frR n s.heap.get?)) && fn.all fun d => d.ok (frR n s.heap.get?)) && ex (frR n s.heap.get?)) = true := congrArg (fun z : AlX => z.1) e
    have e2 : (fn.map fun d => He.fnW (frR n s.heap.get?) d.at_) = fn.map He.DefD.val := congrArg (fun z : AlX => z.2.1) e
    have e3 : (xi.map fun d => fnI (frR n s.heap.get?) d.cls) = xi.map XI.val := congrArg (fun z : AlX => z.2.2) e
    obtain ⟨h1, h2⟩ := He.ba e1
    exact ⟨frR n s.heap.get?, He.frG_in, ⟨Prod.ext h1 e2, h2, e3⟩⟩
  keeps := fun _ _ _ ⟨K, hK, c⟩ k => ⟨K, Frag.In.keeps hK k, c⟩
def obX (n : Nat) (fa : List He.Fa) (fn : List He.DefD) (xi : List XI) (ex : Frag → Bool) (s : SharedT) : AlX := obsX n fa fn xi ex (HandSHeadRun.getT s)
theorem obX_eq (n : Nat) (fa : List He.Fa) (fn : List He.DefD) (xi : List XI) (ex : Frag → Bool) (s : SharedT) : obX n fa fn xi ex s = (hookX n fa fn xi ex).obs s.abs := by
  have e : HandSHeadRun.getT s = s.abs.heap.get? := funext (HandSHeadRun.getT_eq s)
  show obsX n fa fn xi ex (HandSHeadRun.getT s) = obsX n fa fn xi ex s.abs.heap.get?
  rw [e]
theorem SaysX.init {fa : List He.Fa} {fn : List He.DefD} {xi : List XI} {ex : Frag → Bool} {K : Frag} (c : SaysX fa fn xi ex K) (i : Nat) {d : XI} (h : xi[i]? = some d := by rfl) : fnI K d.cls = d.val := by
  have e2 : (xi.map fun d => fnI K d.cls)[i]? = (xi.map XI.val)[i]? := by rw [c.inits]
  rw [List.getElem?_map, List.getElem?_map, h] at e2
  exact Option.some.inj e2
end Rw

set_option Elab.async false
set_option linter.all false
set_option maxRecDepth 100000
set_option maxHeartbeats 4000000
namespace K01
open PySem PySem.Spec PyProof.Rows L2 Rw
def top (i : Nat) : Stmt := PySem.Challenge.pw_rulewardens_k01_whole_errors_and_four_mo.main.body.getD i (.Pass ⟨0, 0, 0, 0⟩)
abbrev sDraw : Stmt := top 31

/-! ### the deck -/
abbrev dk (L : Addr) (m k : Int) : List (Key × V) := [(.inr "cells", .ref L), (.inr "mixed", .int m), (.inr "draws", .int k)]
abbrev kC : Key := Sum.inr ("cells" : Str)
abbrev kM : Key := Sum.inr ("mixed" : Str)
abbrev kD : Key := Sum.inr ("draws" : Str)
theorem cm : ¬ kC = kM := by decide +kernel
theorem cd : ¬ kC = kD := by decide +kernel
theorem md : ¬ kM = kD := by decide +kernel
theorem dk_vc (L : Addr) (m k : Int) : valV (dk L m k) kC = some (.ref L) := valV_pos rfl
theorem dk_vm (L : Addr) (m k : Int) : valV (dk L m k) kM = some (.int m) := (valV_neg cm).trans (valV_pos rfl)
theorem dk_vd (L : Addr) (m k : Int) : valV (dk L m k) kD = some (.int k) := (valV_neg cd).trans ((valV_neg md).trans (valV_pos rfl))
theorem dk_cells {H : Hp} {D L : Addr} {m k : Int} (h : H D = some (.dK (dk L m k))) : DGet H D (.str "cells") (some (.ref L)) := by
  have e := DGet.k (k := kC) h
  rw [dk_vc] at e
  exact e
theorem dk_mixed {H : Hp} {D L : Addr} {m k : Int} (h : H D = some (.dK (dk L m k))) : DGet H D (.str "mixed") (some (.int m)) := by
  have e := DGet.k (k := kM) h
  rw [dk_vm] at e
  exact e
theorem dk_draws {H : Hp} {D L : Addr} {m k : Int} (h : H D = some (.dK (dk L m k))) : DGet H D (.str "draws") (some (.int k)) := by
  have e := DGet.k (k := kD) h
  rw [dk_vd] at e
  exact e
theorem dk_put (L : Addr) (m k j : Int) : putK (dk L m k) kD (.int j) = dk L m j := by
  unfold putK
  rw [valV_any, dk_vd]
  have e : (some (V.int k)).isSome = true := rfl
  rw [if_pos e]
  simp only [dk, List.map_cons, List.map_nil, if_neg cd, if_neg md, if_true]
structure Deck (H : Hp) (D L : Addr) (n : Int) : Prop where
  ex : ∃ (cs : List Int) (m k : Int), H D = some (.dK (dk L m k)) ∧ H L = some (.lst (cs.map .int)) ∧ cs.length ≤ 63 ∧ 0 ≤ m ∧ m < 2147483648 ∧ 0 ≤ k ∧ k ≤ n
/-- all that stood stands, but for the deck -/
def Kp (D L : Addr) (H H' : Hp) : Prop := ∀ a o, H a = some o → a ≠ D → a ≠ L → H' a = some o
def spDraw : Sp := fun vs H Q _ => ∃ (D L : Addr) (n b : Int), vs = [.ref D, .int b] ∧ Deck H D L n ∧ n ≤ 1000000 ∧ 1 ≤ b ∧ b ≤ 1000000 ∧
  ∀ r H', 0 ≤ r → r < b → Deck H' D L (n + 1) → Kp D L H H' → Q (.int r) H'
structure Txt (K : PySem.W.Frag) (mg : Str → Option Value) : Prop where
  int : mg "int" = none
  len : mg "len" = none
  list : mg "list" = none

theorem lay_ints : ∀ cs : List Int, PyData.canLayAll0 (cs.map PyData.int) = true
  | [] => by simp only [List.map_nil, PyData.canLayAll0]
  | c :: cs => by simp only [List.map_cons, PyData.canLayAll0, PyData.canLay0, lay_ints cs, Bool.and_self]
theorem depth_ints : ∀ cs : List Int, PyData.depthAll (cs.map PyData.int) = 0
  | [] => by simp only [List.map_nil, PyData.depthAll]
  | c :: cs => by simp only [List.map_cons, PyData.depthAll, PyData.depth, depth_ints cs, Nat.max_self]
theorem shaped_ints (cs : List Int) : SeqAt.shaped (.list (cs.map PyData.int)) = true := by
  unfold SeqAt.shaped
  simp only [PyData.canLay0, PyData.depth, lay_ints, depth_ints, Bool.true_and]
  decide
theorem dp_ints {K : PySem.W.Frag} {H : Hp} : ∀ cs : List Int, DpAll K H (cs.map .int) (cs.map PyData.int)
  | [] => .nil
  | c :: cs => .cons (.int c) (dp_ints cs)
theorem eqv_nil (cs : List Int) : PyData.eqv (.list (cs.map PyData.int)) (.list []) = cs.isEmpty := by
  cases cs with
  | nil => simp only [List.map_nil, PyData.eqv, PyData.eqvAll]; rfl
  | cons c cs => simp only [List.map_cons, PyData.eqv, PyData.eqvAll]; rfl

section
variable {P : Program} {w : World} {K : PySem.W.Frag} {mg : Str → Option Value} {base : Heap}
theorem scDraw : FnScope ["deck", "below", "turn_now", "figure", "cell"] ["deck", "below"] (defScope sDraw) := ⟨rfl, rfl, rfl, by decide +kernel, rfl, by decide +kernel, by decide +kernel⟩
theorem ok_draw {f : Addr} {fd : FuncData} (F : FunD K "_law_draw" "_law_draw" (defArgs sDraw) (defBody sDraw) (defScope sDraw) [] [] f fd) (T : Txt K mg) : FnOk P w K mg base CX0 1 f fd ["deck", "below"] spDraw := by
  refine F.ok scDraw (fun vs H Q E h => ?_) (fun cdv A outer s H vs Q E hr h => ?_)
  · obtain ⟨D, L, n, b, rfl, _⟩ := h
    rfl
  obtain ⟨D, L, n, b, rfl, ⟨cs, m, k, hD, hL, hc, hm0, hm1, hk0, hk1⟩, hn, hb0, hb1, hq⟩ := h
  refine ⟨_, PSs.nox (pss_cons (ps_dput (hu_of hr) (pv 0) pe_str (pe_op op_add (pe_dget (hu_of hr) (pv 0) pe_str (fun _ _ => rfl)) pe_int) rfl)
      (pss_cons (ps_par (i := 2) (j := 3) (by rfl) scDraw.nd rfl rfl (by decide) rfl rfl (pa_cons (pe_dget (hu_of hr) (pv 0) pe_str (fun _ _ => rfl)) (pa_cons (pe_dget (hu_of hr) (pv 0) pe_str (fun _ _ => rfl)) pa_nil)) (by rfl))
      (C8.pss_cut (ps_if (pt_cmpR (op_neD hr.units) (pe_dget (hu_of hr) (pv 0) pe_str (fun _ _ => rfl)) (pe_lst pa_nil) (nomark _)) (pss_cons (ps_set (i := 4) scDraw.nd rfl (Or.inl rfl) (pe_callTy call_int1 (by rfl) T.int (by decide +kernel) (pa_cons (pe_bm0 PySem.F.plainAttrs_list PySem.F.slot_list_pop PySem.F.type_list_pop mt_pop (pe_dget (hu_of hr) (pv 0) pe_str (fun _ _ => rfl))) pa_nil)))
      (pss_cons (ps_if (pt_cmpR op_ge (pv 4) (pe_op op_pow pe_int pe_int) (nomark _)) (pss_cons (ps_expr (pe_bm PySem.F.plainAttrs_list PySem.F.slot_list_append PySem.F.type_list_append mt_append (pe_dget (hu_of hr) (pv 0) pe_str (fun _ _ => rfl)) (pa_cons (pe_op op_fdiv (pv 4) (pv 1)) pa_nil)))
      (pss_one (ps_ret (pe_op op_mod (pv 4) (pv 1))))) pss_nil)
      (pss_one (ps_set (i := 3) scDraw.nd rfl (Or.inl rfl) (pe_op op_add (pv 3) (pe_op op_mod (pv 4) pe_int)))))) pss_nil)
      (pss_cons (ps_set (i := 3) scDraw.nd rfl (Or.inl rfl) (pe_op op_mod (pe_op op_mul (pe_callTy call_int1 (by rfl) T.int (by decide +kernel) (pa_cons (pe_op op_add (pe_op op_add (pe_op op_mod (pe_callTy call_int1 (by rfl) T.int (by decide +kernel) (pa_cons (pv 3) pa_nil)) pe_int) (pe_op op_mul (pe_op op_mul pe_int (pv 2)) (pv 2))) pe_int) pa_nil)) pe_int) pe_int))
      (pss_cons (ps_set (i := 3) scDraw.nd rfl (Or.inl rfl) (pe_op op_mod (pe_callTy call_int1 (by rfl) T.int (by decide +kernel) (pa_cons (pe_op op_add (pe_op op_add (pe_op op_mul (pv 3) (pv 3)) (pe_op op_mul pe_int (pv 2))) pe_int) pa_nil)) pe_int))
      (pss_one (ps_ret (pe_op op_mod (pe_op op_fdiv (pe_op op_mod (pe_callTy call_int1 (by rfl) T.int (by decide +kernel) (pa_cons (pe_op op_mul (pv 3) pe_int) pa_nil)) pe_int) pe_int) (pv 1))))))))), ?_⟩
  have nDL : D ≠ L := ne_of hD hL (fun z => by cases z)
  refine ⟨_, rfl, _, _, rfl, dk_draws hD, _, _, rfl, rfl, _, rfl, _, _, rfl, DPut.k (k := kD) hD (by show 3 < sizeLine; decide), ?_⟩
  generalize eH : upd H D (.dK (putK (dk L m k) kD (.int (k + 1)))) = H1
  have hD1 : H1 D = some (.dK (dk L m (k + 1))) := by rw [← eH, upd_same, dk_put]
  have hL1 : H1 L = some (.lst (cs.map .int)) := by rw [← eH, upd_ne nDL.symm]; exact hL
  have kp1 : ∀ a o, H a = some o → a ≠ D → H1 a = some o := fun a o z h1 => by rw [← eH, upd_ne h1]; exact z
  refine ⟨_, rfl, _, _, rfl, dk_draws hD1, _, rfl, _, _, rfl, dk_mixed hD1, _, _, rfl, ?_⟩
  -- behind the if: some figure
  refine ⟨fun σ' H' => ∃ (fg : Int) (c : Option V), σ' = [some (.ref D), some (.int b), some (.int (k + 1)), some (.int fg), c] ∧ 0 ≤ fg ∧ fg < 4294967296 ∧ Deck H' D L (n + 1) ∧ Kp D L H H', ?_, ?_⟩
  · refine ⟨_, rfl, _, _, rfl, dk_cells hD1, Nat.zero_le _, fun p hp => ?_⟩
    generalize eH2 : upd H1 p (.lst []) = H2
    have hp2 : H2 p = some (.lst []) := by rw [← eH2, upd_same]
    have kp2 : ∀ a o, H1 a = some o → H2 a = some o := fun a o z => by rw [← eH2, upd_ne (ne_of_none z hp)]; exact z
    have hD2 := kp2 _ _ hD1
    have hL2 := kp2 _ _ hL1
    have kp : Kp D L H H2 := fun a o z h1 _ => kp2 _ _ (kp1 _ _ z h1)
    refine ⟨_, _, .lst (SqL.of hL2) (dp_ints cs), .lst (SqL.of hp2) .nil, shaped_ints cs, shaped_ints [], _, rfl, ?_⟩
    rw [eqv_nil]
    cases hcs : cs.isEmpty with
    | true =>
      refine iteF ?_
      exact ⟨m, none, rfl, hm0, by omega, ⟨cs, m, k + 1, hD2, hL2, hc, hm0, hm1, by omega, by omega⟩, kp⟩
    | false =>
      refine iteT ?_
      obtain ⟨ds, c, rfl⟩ : ∃ ds c, cs = ds ++ [c] := by
        refine ⟨cs.dropLast, cs.getLast (fun z => by rw [z] at hcs; cases hcs), (List.dropLast_concat_getLast _).symm⟩
      have el : (List.map V.int (ds ++ [c]))[(List.map V.int (ds ++ [c])).length - 1]? = some (.int c) := by simp
      have ed : (List.map V.int (ds ++ [c])).dropLast = ds.map V.int := by simp
      have ln : ds.length ≤ 62 := by
        rw [List.length_append] at hc
        have : [c].length = 1 := rfl
        omega
      refine ⟨_, rfl, _, _, rfl, dk_cells hD2, .inl ⟨rfl, _, SqL.of hL2⟩, _, _, _, rfl, rfl, hL2, el, .inl ⟨_, rfl, ?_⟩⟩
      rw [ed]
      generalize eH3 : upd H2 L (.lst (ds.map V.int)) = H3
      have hL3 : H3 L = some (.lst (ds.map V.int)) := by rw [← eH3, upd_same]
      have hD3 : H3 D = some (.dK (dk L m (k + 1))) := by rw [← eH3, upd_ne nDL]; exact hD2
      have kp3 : Kp D L H H3 := fun a o z h1 h2 => by rw [← eH3, upd_ne h2]; exact kp a o z h1 h2
      refine ⟨_, rfl, _, _, rfl, rfl, ⟨by decide, by decide, by decide⟩, _, _, rfl, rfl, _, rfl, ?_⟩
      refine ite2 (fun _ => ?_) fun _ => ?_
      · -- a large cell: a digit of it
        refine ⟨_, rfl, _, _, rfl, dk_cells hD3, .inl ⟨rfl, _, SqL.of hL3⟩, _, rfl, _, rfl, _, _, rfl, rfl, ⟨by omega, by omega⟩, _, _, _, rfl, rfl, hL3, by rw [List.length_map]; exact small1000 (by omega), ?_⟩
        refine ⟨_, rfl, _, rfl, _, _, rfl, rfl, by omega, ?_⟩
        refine hq _ _ (Int.emod_nonneg _ (by omega)) (Int.emod_lt_of_pos _ (by omega)) ⟨ds ++ [c / b], m, k + 1, ?_, ?_, ?_, hm0, hm1, by omega, by omega⟩ fun a o z h1 h2 => ?_
        · rw [upd_ne nDL]; exact hD3
        · rw [upd_same, List.map_append]; rfl
        · rw [List.length_append]; show ds.length + 1 ≤ 63; omega
        · rw [upd_ne h2]; exact kp3 a o z h1 h2
      · refine ⟨_, rfl, _, rfl, _, _, rfl, rfl, (by exact (by decide : (0 : Int) < 2147483563)), _, _, rfl, rfl, ?_⟩
        have h1 := Int.emod_nonneg c (by decide : (2147483563 : Int) ≠ 0)
        have h2 := Int.emod_lt_of_pos c (by decide : (0 : Int) < 2147483563)
        exact ⟨_, _, rfl, by omega, by omega, ⟨ds, m, k + 1, hD3, hL3, by omega, hm0, hm1, by omega, by omega⟩, kp3⟩
  · rintro σ' H' ⟨fg, c, rfl, f0, f1, hdk, hkp⟩
    have sq : ∀ x : Int, 0 ≤ x → x ≤ 1000001 → 0 ≤ 60623 * x * x ∧ 60623 * x * x ≤ 60623 * 1000001 * 1000001 := fun x h1 h2 => by
      have z1 : 0 ≤ 60623 * x := by omega
      have z2 : 60623 * x ≤ 60623 * 1000001 := by omega
      exact ⟨Int.mul_nonneg z1 h1, Int.mul_le_mul z2 h2 h1 (by decide)⟩
    have e1 := Int.emod_nonneg fg (by decide : (2147483629 : Int) ≠ 0)
    have e2 := Int.emod_lt_of_pos fg (by decide : (0 : Int) < 2147483629)
    obtain ⟨e3, e4⟩ := sq (k + 1) (by omega) (by omega)
    refine ⟨_, rfl, .inl ⟨_, rfl, _, _, rfl, rfl, (by exact (by decide : (0 : Int) < 2147483629)), _, rfl, _, _, rfl, rfl, .inl ⟨by decide, by decide⟩, _, rfl, _, _, rfl, rfl, .inl ⟨by omega, by omega⟩, _, _, rfl, rfl, _, _, rfl, rfl,
      .inl ⟨_, rfl, _, _, rfl, rfl, .inl ⟨by omega, by omega⟩, _, _, rfl, rfl, (by exact (by decide : (0 : Int) < 2147483647)), ?_⟩⟩⟩
    generalize (fg % 2147483629 + 60623 * (k + 1) * (k + 1) + 201) * 40692 = g1
    have f2 := Int.emod_nonneg g1 (by decide : (2147483647 : Int) ≠ 0)
    have f3 := Int.emod_lt_of_pos g1 (by decide : (0 : Int) < 2147483647)
    generalize g1 % 2147483647 = g2 at f2 f3
    refine ⟨_, rfl, _, rfl, _, _, rfl, rfl, .inl ⟨by omega, by omega⟩, _, rfl, _, _, rfl, rfl, .inl ⟨by decide, by decide⟩, _, _, rfl, rfl, _, _, rfl, rfl, .inl ⟨_, rfl, _, _, rfl, rfl, (by exact (by decide : (0 : Int) < 2147483579)), ?_⟩⟩
    generalize g2 * g2 + 69621 * (k + 1) + 201 = g3
    have f4 := Int.emod_nonneg g3 (by decide : (2147483579 : Int) ≠ 0)
    have f5 := Int.emod_lt_of_pos g3 (by decide : (0 : Int) < 2147483579)
    generalize g3 % 2147483579 = g4 at f4 f5
    refine ⟨_, rfl, _, _, rfl, rfl, .inl ⟨by omega, by omega⟩, .inl ⟨_, rfl, _, _, rfl, rfl, (by exact (by decide : (0 : Int) < 2147483549)), _, _, rfl, rfl, ⟨by decide, by decide⟩, _, rfl, _, _, rfl, rfl, by omega, ?_⟩⟩
    exact hq _ _ (Int.emod_nonneg _ (by omega)) (Int.emod_lt_of_pos _ (by omega)) hdk hkp
end
end K01

set_option Elab.async false
set_option linter.all false
set_option maxRecDepth 100000
set_option maxHeartbeats 4000000
namespace K01
open PySem PySem.Spec PyProof.Rows L2 Rw
abbrev sDeck : Stmt := top 30
abbrev sPick : Stmt := top 32
def spDeck (K : PySem.W.Frag) : Sp := fun vs H Q _ => ∃ (a : Addr) (ns : List Int), vs = [.ref a] ∧ SqL K H a (ns.map V.int) ∧ ∀ D L H', Deck H' D L 0 → Same H H' → H D = none → H L = none → D ≠ L → Q (.ref D) H'
def spPick : Sp := fun vs H Q _ => ∃ (D L : Addr) (n : Int) (a : Addr) (xs : List V), vs = [.ref D, .ref a] ∧ Deck H D L n ∧ n ≤ 1000000 ∧ H a = some (.lst xs) ∧ a ≠ L ∧ 1 ≤ xs.length ∧ xs.length ≤ 1000 ∧
  ∀ (i : Nat) (x : V) H', xs[i]? = some x → Deck H' D L (n + 1) → Kp D L H H' → Q x H'
section
variable {P : Program} {w : World} {K : PySem.W.Frag} {mg : Str → Option Value} {base : Heap}
theorem scDeck : FnScope ["script", "cells", "mixed", "cell"] ["script"] (defScope sDeck) := ⟨rfl, rfl, rfl, by decide +kernel, rfl, by decide +kernel, by decide +kernel⟩
theorem ok_deck {f : Addr} {fd : FuncData} (F : FunD K "_law_deck" "_law_deck" (defArgs sDeck) (defBody sDeck) (defScope sDeck) [] [] f fd) (T : Txt K mg) : FnOk P w K mg base CX0 1 f fd ["script"] (spDeck K) := by
  refine F.ok scDeck (fun vs H Q E h => ?_) (fun cdv A outer s H vs Q E hr h => ?_)
  · obtain ⟨a, ns, rfl, _⟩ := h
    rfl
  obtain ⟨a, ns, rfl, hS, hq⟩ := h
  refine ⟨_, PSs.nox (pss_cons (ps_par (i := 1) (j := 2) (by rfl) scDeck.nd rfl rfl (by decide) rfl rfl (pa_cons (pe_callTy call_list_of (by rfl) T.list (by decide +kernel) (pa_cons (pe_slice sl_list (pv 0) po_none (po_some pe_int)) pa_nil)) (pa_cons pe_int pa_nil)) (by rfl))
      (pss_cons (ps_for PassesOwn.never rfl (pi_list (pv 1)) (pg_name (i := 3) scDeck.nd rfl (Or.inl rfl))
        (pss_one (ps_set (i := 2) scDeck.nd rfl (Or.inl rfl) (pe_op op_mod (pe_callTy call_int1 (by rfl) T.int (by decide +kernel) (pa_cons (pe_op op_add (pe_op op_add (pe_op op_mul (pv 2) pe_int) (pe_op op_mod (pe_callTy call_int1 (by rfl) T.int (by decide +kernel) (pa_cons (pv 3) pa_nil)) pe_int)) pe_int) pa_nil)) pe_int))))
      (pss_one (ps_ret (pe_disp (pps_cons pe_str (pe_revL (pv 1)) (pps_cons pe_str (pv 2) (pps_cons pe_str pe_int pps_nil))) (by rfl) (by rfl) (fun z => by cases z) (by decide)))))), ?_⟩
  -- the cells: a slice, copied
  refine ⟨_, rfl, _, rfl, a, _, rfl, hS, fun p hp => ?_⟩
  obtain ⟨cs, ecs, lcs⟩ : ∃ cs : List Int, cutV (ns.map V.int) none (some 63) = cs.map .int ∧ cs.length ≤ 63 := by
    refine ⟨ns.take 63, ?_, by rw [List.length_take]; omega⟩
    unfold cutV
    rw [HT.sIx_none, show (some (63 : Int)) = some ((63 : Nat) : Int) from rfl, HT.sIx_nat, List.drop_zero, Nat.sub_zero, List.length_map, ← List.map_take]
    congr 1
    by_cases h : 63 ≤ ns.length
    · rw [Nat.min_eq_left h]
    · rw [Nat.min_eq_right (by omega), List.take_length, List.take_of_length_le (by omega)]
  rw [ecs]
  refine ⟨p, _, rfl, .inl (SqL.of upd_same), fun l hl => ?_⟩
  refine ⟨_, _, rfl, ?_⟩
  have npl : l ≠ p := fun e => by
    rw [e, upd_same] at hl
    cases hl
  have hl0 : H l = none := by
    rw [upd_ne npl] at hl
    exact hl
  generalize eH : upd (upd H p (.lst (cs.map .int))) l (.lst (cs.map .int)) = H1
  have hl1 : H1 l = some (.lst (cs.map .int)) := by rw [← eH, upd_same]
  have same : Same H H1 := fun b o z => by
    rw [← eH, upd_ne (ne_of_none z hl0), upd_ne (ne_of_none z hp)]
    exact z
  -- the loop: the mixed number stays below
  refine ⟨_, rfl, l, rfl, ⟨_, SqL.of hl1⟩, for_list (xs := cs.map .int) (fun _ σ' H' => ∃ (m : Int) (c : Option V), σ' = [some (.ref a), some (.ref l), some (.int m), c] ∧ 0 ≤ m ∧ m < 2147483648 ∧ H1 = H') ⟨_, none, rfl, by decide, by decide, rfl⟩ ?_ ?_ ?_⟩
  · rintro _ _ _ _ ⟨m, c, rfl, _, _, rfl⟩
    exact SqL.of hl1
  · rintro i x _ _ hx ⟨m, c, rfl, m0, m1, rfl⟩
    obtain ⟨z, hz, rfl⟩ := List.mem_map.mp (List.mem_of_getElem? hx)
    refine ⟨_, rfl, _, _, rfl, rfl, .inl ⟨by omega, by omega⟩, _, rfl, .inl ⟨_, rfl, _, _, rfl, rfl, (by exact (by decide : (0 : Int) < 2147483629)), _, _, rfl, rfl, _, _, rfl, rfl, .inl ⟨_, rfl, _, _, rfl, rfl, (by exact (by decide : (0 : Int) < 2147483587)), ?_⟩⟩⟩
    exact ⟨_, _, rfl, Int.emod_nonneg _ (by decide), Int.lt_trans (Int.emod_lt_of_pos _ (by decide)) (by decide), rfl⟩
  · rintro _ _ ⟨m, c, rfl, m0, m1, rfl⟩
    intro D hD
    refine ⟨_, rfl, l, _, rfl, SqL.of (by rw [upd_ne (ne_of_none hl1 hD)]; exact hl1), fun q hq' => ?_⟩
    have nqD : q ≠ D := fun e => by
      rw [e, upd_same] at hq'
      cases hq'
    have hq1 : H1 q = none := by
      rw [upd_ne nqD] at hq'
      exact hq'
    refine ⟨_, rfl, by rw [upd_ne nqD.symm]; exact upd_same, dk q m 0, rfl, (by show 3 ≤ 15; decide), ?_⟩
    have em : mergeK [] (dk q m 0) = dk q m 0 := by
      have e1 : putK ([] : List (Key × V)) kC (.ref q) = [(kC, .ref q)] := putK_new _ rfl
      have e2 : putK [(kC, V.ref q)] kM (.int m) = [(kC, .ref q), (kM, .int m)] := putK_new _ ((valV_neg cm).trans rfl)
      have e3 : putK [(kC, V.ref q), (kM, V.int m)] kD (.int 0) = dk q m 0 := putK_new _ ((valV_neg cd).trans ((valV_neg md).trans rfl))
      show putK (putK (putK [] kC (.ref q)) kM (.int m)) kD (.int 0) = _
      rw [e1, e2, e3]
    rw [em]
    have h0 : ∀ {b : Addr}, H1 b = none → H b = none := fun {b} z => same.free z
    refine hq D q _ ⟨cs.reverse, m, 0, upd_same, ?_, ?_, m0, m1, Int.le_refl _, Int.le_refl _⟩ (fun b o z => ?_) (h0 hD) (h0 hq1) nqD.symm
    · rw [upd_ne nqD, upd_same, List.map_reverse]
    · rw [List.length_reverse]
      exact lcs
    · have z1 := same b o z
      rw [upd_ne (ne_of_none z1 hD), upd_ne (ne_of_none z1 hq1), upd_ne (ne_of_none z1 hD)]
      exact z1
theorem scPick : FnScope ["deck", "some"] ["deck", "some"] (defScope sPick) := ⟨rfl, rfl, rfl, by decide +kernel, rfl, by decide +kernel, by decide +kernel⟩
theorem ok_pick {f fD : Addr} {fd fdD : FuncData} (F : FunD K "_law_pick" "_law_pick" (defArgs sPick) (defBody sPick) (defScope sPick) [] [] f fd) (T : Txt K mg)
    (FD : FunD K "_law_draw" "_law_draw" (defArgs sDraw) (defBody sDraw) (defScope sDraw) [] [] fD fdD) (mD : mg "_law_draw" = some (.ref fD)) : FnOk P w K mg base CX0 2 f fd ["deck", "some"] spPick := by
  have GD : FnOk P w K mg base CX0 1 fD fdD ["deck", "below"] spDraw := ok_draw FD T
  have bD : Binds K fdD ["deck", "below"] [] := FD.bindsN fun _ _ _ _ _ _ us hl => match us, hl with | [_, _], _ => rfl
  refine F.ok scPick (fun vs H Q E h => ?_) (fun cdv A outer s H vs Q E hr h => ?_)
  · obtain ⟨D, L, n, a, xs, rfl, _⟩ := h
    rfl
  obtain ⟨D, L, n, a, xs, rfl, hd, hn, ha, naL, l1, l2, hq⟩ := h
  refine ⟨_, PSs.nox (pss_one (ps_ret (pe_ix ix_list (pv 1) (pe_call GD (hr.mono (by decide)) rfl mD FD.kp bD .nil pass0 (pa_cons (pv 0) (pa_cons (pe_callB call_len_seq (by rfl) T.len PySem.boot_len (pa_cons (pv 1) pa_nil)) pa_nil))) (fun _ _ => rfl)))), ?_⟩
  refine ⟨_, rfl, _, rfl, _, rfl, a, xs, rfl, .inl (SqL.of ha), D, L, n, xs.length, rfl, hd, hn, by omega, by omega, fun r H' r0 r1 hd' hk => ?_⟩
  have naD : a ≠ D := by
    obtain ⟨_, _, _, z, _⟩ := hd.ex
    exact ne_of ha z (fun q => by cases q)
  obtain ⟨j, rfl⟩ := Int.eq_ofNat_of_zero_le r0
  have hj : j < xs.length := by omega
  refine ⟨a, xs, _, xs[j], rfl, rfl, SqL.of (hk _ _ ha naD naL), atI_nat (by simp [hj]), ?_⟩
  exact hq j _ H' (by simp [hj]) hd' hk
end
end K01

set_option Elab.async false
set_option linter.all false
set_option maxRecDepth 100000
set_option maxHeartbeats 4000000
namespace K01
open PySem PySem.Spec PyProof.Rows L2 Rw
abbrev sMa : Stmt := top 33
abbrev sMb : Stmt := top 34
abbrev sMc : Stmt := top 35
abbrev sMd : Stmt := top 36
abbrev sMbare : Stmt := top 37
def tbA : List (Str × Str) := [("BadBook", "part"), ("BadDevice", "part"), ("BadWard", "part"), ("BadGuest", "part"), ("BadOnlooker", "part"), ("BadText", "line")]
def tbB : List (Str × Str) := [("BadChoice", "choice"), ("TooMany", "most"), ("CannotCome", "place"), ("Refused", "paper"), ("NeverSure", "paper"), ("NeverStays", "number")]
def tbC : List (Str × Str) := [("Uncaught", "paper"), ("BadName", "name"), ("NameTaken", "name"), ("NoWard", "name"), ("NotHeard", "heard"), ("NotAlike", "log")]
def tbD : List (Str × Str) := [("Harmful", "paper"), ("BadRule", "part"), ("Disobeyed", "paper"), ("Unheld", "paper"), ("NeverTold", "paper")]
def tbE : List Str := ["OtherFaces", "NothingToUndo", "NothingToRedo", "InvalidCommand"]
def tab : List (Str × Str) := tbA ++ tbB ++ tbC ++ tbD
def names : List Str := tab.map (·.1) ++ tbE
def allN : List Str := "WardError" :: names
def bareN : List Str := "WardError" :: tbE
/-- what the written part tells of the names at the top -/
structure Ty (P : Program) (K : PySem.W.Frag) (mg : Str → Option Value) (c : Str → Addr) : Prop extends Txt K mg where
  super : mg "super" = none
  range : mg "range" = none
  repr : mg "repr" = none
  isin : mg "isinstance" = none
  tuple : mg "tuple" = none
  dict : mg "dict" = none
  enum : mg "enumerate" = none
  exc : mg "Exception" = none
  val : mg "ValueError" = none
  gx : ∀ x ∈ allN, mg x = some (.ref (c x))
  wx : ∀ y ∈ tab, WxC P K (c y.1) y.2
  wn : ∀ x ∈ bareN, WnC K (c x)
  kit : ∀ x ∈ allN, ∀ y ∈ names, PySem.W.kitOne K (.ref (c x)) (.ref (c y)) = some (decide (x = y))
  kitW : ∀ x ∈ names, PySem.W.kitOne K (.ref (c x)) (.ref (c "WardError")) = some true
  kitE : PySem.W.kitOne K (.ref (c "WardError")) (.type "Exception") = some true
  kitV : PySem.W.kitOne K (.ref (c "WardError")) (.type "ValueError") = some false
  exm : PySem.W.exmOne K (.ref (c "TooMany")) (.ref (c "WardError")) = some true
  wk : WxK K
theorem Ty.gt {P : Program} {K : PySem.W.Frag} {mg : Str → Option Value} {c : Str → Addr} (T : Ty P K mg c) (x : Str) (h : x ∈ allN := by decide +kernel) : mg x = some (.ref (c x)) := T.gx x h
theorem Ty.wt {P : Program} {K : PySem.W.Frag} {mg : Str → Option Value} {c : Str → Addr} (T : Ty P K mg c) (x p : Str) (h : (x, p) ∈ tab := by decide +kernel) : WxC P K (c x) p := T.wx (x, p) h
theorem Ty.nt {P : Program} {K : PySem.W.Frag} {mg : Str → Option Value} {c : Str → Addr} (T : Ty P K mg c) (x : Str) (h : x ∈ bareN := by decide +kernel) : WnC K (c x) := T.wn x h
/-- a new error of class C that bears v as p -/
def Mk (C : Addr) (p : Str) (v : V) (H : Hp) (Q : VK) : Prop := ∀ a d, H a = none → H d = none → d ≠ a → Q (.ref a) (upd (upd H d (.xd [(p, v)])) a (xoO a C (some d)))
def MkT (c : Str → Addr) (w : Str) (v : V) (H : Hp) (Q : VK) : List (Str × Str) → Prop
  | [] => Q .non H
  | (x, p) :: t => (w = x → Mk (c x) p v H Q) ∧ (¬ w = x → MkT c w v H Q t)
def spMade (c : Str → Addr) (tb : List (Str × Str)) : Sp := fun vs H Q _ => ∃ (w : Str) (v : V) (b : Bool), vs = [.str w, v, .bl b] ∧ MkT c w v H Q tb
def MkN (c : Str → Addr) (w : Str) (H : Hp) (Q : VK) : List Str → Prop
  | [] => Q .non H
  | x :: t => (w = x → ∀ a, H a = none → Q (.ref a) (upd H a (xoO a (c x) none))) ∧ (¬ w = x → MkN c w H Q t)
def spBare (c : Str → Addr) (tb : List Str) : Sp := fun vs H Q _ => ∃ (w : Str), vs = [.str w] ∧ MkN c w H Q tb
theorem str_eq {x y : Str} : (V.str x = V.str y) = (x = y) := by simp
theorem mk_step {C : Addr} {p x : Str} {rest : TS} {F : Ends} {w : Str} {v : V} {b : Bool} {H : Hp} (h1 : w = x → Mk C p v H F.rt) (h2 : ¬ w = x → rest F [some (.str w), some v, some (.bl b)] H) :
    tSeq (tIfS (tTest (tOp rEq (tVar 0) (tC (.str x)))) (tRet (tIf (tB (tVar 2)) (tMkX C p (tVar 1)) (tMkX C p (tVar 1)))) tNext) rest F [some (.str w), some v, some (.bl b)] H := by
  refine ⟨_, rfl, rfl, _, rfl, ite2 (fun h => ?_) fun h => ?_⟩
  · rw [decide_eq_true_eq, str_eq] at h
    cases b
    · exact ⟨_, rfl, _, rfl, iteF ⟨_, rfl, h1 h⟩⟩
    · exact ⟨_, rfl, _, rfl, iteT ⟨_, rfl, h1 h⟩⟩
  · rw [decide_eq_true_eq, str_eq] at h
    exact h2 h
theorem bare_step {C : Addr} {x : Str} {rest : TS} {F : Ends} {w : Str} {H : Hp} (h1 : w = x → ∀ a, H a = none → F.rt (.ref a) (upd H a (xoO a C none))) (h2 : ¬ w = x → rest F [some (.str w)] H) :
    tSeq (tIfS (tTest (tOp rEq (tVar 0) (tC (.str x)))) (tRet (fun _ H Q => ∀ a, H a = none → Q (.ref a) (upd H a (xoO a C none)))) tNext) rest F [some (.str w)] H := by
  refine ⟨_, rfl, rfl, _, rfl, ite2 (fun h => ?_) fun h => ?_⟩
  · rw [decide_eq_true_eq, str_eq] at h
    exact h1 h
  · rw [decide_eq_true_eq, str_eq] at h
    exact h2 h
section
variable {P : Program} {w : World} {K : PySem.W.Frag} {mg : Str → Option Value} {base : Heap} {c : Str → Addr}
theorem scMa : FnScope ["word", "it", "is_named"] ["word", "it", "is_named"] (defScope sMa) := ⟨rfl, rfl, rfl, by decide +kernel, rfl, by decide +kernel, by decide +kernel⟩
theorem ok_ma {f : Addr} {fd : FuncData} (F : FunD K "_law_made_a" "_law_made_a" (defArgs sMa) (defBody sMa) (defScope sMa) [] [] f fd) (T : Ty P K mg c) : FnOk P w K mg base CX0 1 f fd ["word", "it", "is_named"] (spMade c tbA) := by
  refine F.ok scMa (fun vs H Q E h => ?_) (fun cdv A outer s H vs Q E hr h => ?_)
  · obtain ⟨_, _, _, rfl, _⟩ := h
    rfl
  obtain ⟨w, v, b, rfl, h⟩ := h
  have room := show (A.deeper (envOfC "_law_made_a" (defScope sMa) s.heap.objs.size f cdv)).depth + 1 < recursionLimit by have := hr.dp; omega
  refine ⟨_, PSs.nox (pss_cons (ps_if (pt_cmpR op_eq (pv 0) pe_str (nomark _)) (pss_one (ps_ret (pe_ifExp (pt_val (pv 2)) (pe_mkXK (T.wt "BadBook" "part") room T.super rfl (T.gt "BadBook") (pv 1)) (pe_mkX (T.wt "BadBook" "part") room T.super rfl (T.gt "BadBook") (pv 1))))) pss_nil)
      (pss_cons (ps_if (pt_cmpR op_eq (pv 0) pe_str (nomark _)) (pss_one (ps_ret (pe_ifExp (pt_val (pv 2)) (pe_mkXK (T.wt "BadDevice" "part") room T.super rfl (T.gt "BadDevice") (pv 1)) (pe_mkX (T.wt "BadDevice" "part") room T.super rfl (T.gt "BadDevice") (pv 1))))) pss_nil)
      (pss_cons (ps_if (pt_cmpR op_eq (pv 0) pe_str (nomark _)) (pss_one (ps_ret (pe_ifExp (pt_val (pv 2)) (pe_mkXK (T.wt "BadWard" "part") room T.super rfl (T.gt "BadWard") (pv 1)) (pe_mkX (T.wt "BadWard" "part") room T.super rfl (T.gt "BadWard") (pv 1))))) pss_nil)
      (pss_cons (ps_if (pt_cmpR op_eq (pv 0) pe_str (nomark _)) (pss_one (ps_ret (pe_ifExp (pt_val (pv 2)) (pe_mkXK (T.wt "BadGuest" "part") room T.super rfl (T.gt "BadGuest") (pv 1)) (pe_mkX (T.wt "BadGuest" "part") room T.super rfl (T.gt "BadGuest") (pv 1))))) pss_nil)
      (pss_cons (ps_if (pt_cmpR op_eq (pv 0) pe_str (nomark _)) (pss_one (ps_ret (pe_ifExp (pt_val (pv 2)) (pe_mkXK (T.wt "BadOnlooker" "part") room T.super rfl (T.gt "BadOnlooker") (pv 1)) (pe_mkX (T.wt "BadOnlooker" "part") room T.super rfl (T.gt "BadOnlooker") (pv 1))))) pss_nil)
      (pss_cons (ps_if (pt_cmpR op_eq (pv 0) pe_str (nomark _)) (pss_one (ps_ret (pe_ifExp (pt_val (pv 2)) (pe_mkXK (T.wt "BadText" "line") room T.super rfl (T.gt "BadText") (pv 1)) (pe_mkX (T.wt "BadText" "line") room T.super rfl (T.gt "BadText") (pv 1))))) pss_nil)
      (pss_one (ps_ret pe_non)))))))), ?_⟩
  refine mk_step h.1 fun z => ?_
  replace h := h.2 z
  refine mk_step h.1 fun z => ?_
  replace h := h.2 z
  refine mk_step h.1 fun z => ?_
  replace h := h.2 z
  refine mk_step h.1 fun z => ?_
  replace h := h.2 z
  refine mk_step h.1 fun z => ?_
  replace h := h.2 z
  refine mk_step h.1 fun z => ?_
  replace h := h.2 z
  exact h
theorem scMb : FnScope ["word", "it", "is_named"] ["word", "it", "is_named"] (defScope sMb) := ⟨rfl, rfl, rfl, by decide +kernel, rfl, by decide +kernel, by decide +kernel⟩
theorem ok_mb {f : Addr} {fd : FuncData} (F : FunD K "_law_made_b" "_law_made_b" (defArgs sMb) (defBody sMb) (defScope sMb) [] [] f fd) (T : Ty P K mg c) : FnOk P w K mg base CX0 1 f fd ["word", "it", "is_named"] (spMade c tbB) := by
  refine F.ok scMb (fun vs H Q E h => ?_) (fun cdv A outer s H vs Q E hr h => ?_)
  · obtain ⟨_, _, _, rfl, _⟩ := h
    rfl
  obtain ⟨w, v, b, rfl, h⟩ := h
  have room := show (A.deeper (envOfC "_law_made_b" (defScope sMb) s.heap.objs.size f cdv)).depth + 1 < recursionLimit by have := hr.dp; omega
  refine ⟨_, PSs.nox (pss_cons (ps_if (pt_cmpR op_eq (pv 0) pe_str (nomark _)) (pss_one (ps_ret (pe_ifExp (pt_val (pv 2)) (pe_mkXK (T.wt "BadChoice" "choice") room T.super rfl (T.gt "BadChoice") (pv 1)) (pe_mkX (T.wt "BadChoice" "choice") room T.super rfl (T.gt "BadChoice") (pv 1))))) pss_nil)
      (pss_cons (ps_if (pt_cmpR op_eq (pv 0) pe_str (nomark _)) (pss_one (ps_ret (pe_ifExp (pt_val (pv 2)) (pe_mkXK (T.wt "TooMany" "most") room T.super rfl (T.gt "TooMany") (pv 1)) (pe_mkX (T.wt "TooMany" "most") room T.super rfl (T.gt "TooMany") (pv 1))))) pss_nil)
      (pss_cons (ps_if (pt_cmpR op_eq (pv 0) pe_str (nomark _)) (pss_one (ps_ret (pe_ifExp (pt_val (pv 2)) (pe_mkXK (T.wt "CannotCome" "place") room T.super rfl (T.gt "CannotCome") (pv 1)) (pe_mkX (T.wt "CannotCome" "place") room T.super rfl (T.gt "CannotCome") (pv 1))))) pss_nil)
      (pss_cons (ps_if (pt_cmpR op_eq (pv 0) pe_str (nomark _)) (pss_one (ps_ret (pe_ifExp (pt_val (pv 2)) (pe_mkXK (T.wt "Refused" "paper") room T.super rfl (T.gt "Refused") (pv 1)) (pe_mkX (T.wt "Refused" "paper") room T.super rfl (T.gt "Refused") (pv 1))))) pss_nil)
      (pss_cons (ps_if (pt_cmpR op_eq (pv 0) pe_str (nomark _)) (pss_one (ps_ret (pe_ifExp (pt_val (pv 2)) (pe_mkXK (T.wt "NeverSure" "paper") room T.super rfl (T.gt "NeverSure") (pv 1)) (pe_mkX (T.wt "NeverSure" "paper") room T.super rfl (T.gt "NeverSure") (pv 1))))) pss_nil)
      (pss_cons (ps_if (pt_cmpR op_eq (pv 0) pe_str (nomark _)) (pss_one (ps_ret (pe_ifExp (pt_val (pv 2)) (pe_mkXK (T.wt "NeverStays" "number") room T.super rfl (T.gt "NeverStays") (pv 1)) (pe_mkX (T.wt "NeverStays" "number") room T.super rfl (T.gt "NeverStays") (pv 1))))) pss_nil)
      (pss_one (ps_ret pe_non)))))))), ?_⟩
  refine mk_step h.1 fun z => ?_
  replace h := h.2 z
  refine mk_step h.1 fun z => ?_
  replace h := h.2 z
  refine mk_step h.1 fun z => ?_
  replace h := h.2 z
  refine mk_step h.1 fun z => ?_
  replace h := h.2 z
  refine mk_step h.1 fun z => ?_
  replace h := h.2 z
  refine mk_step h.1 fun z => ?_
  replace h := h.2 z
  exact h
theorem scMc : FnScope ["word", "it", "is_named"] ["word", "it", "is_named"] (defScope sMc) := ⟨rfl, rfl, rfl, by decide +kernel, rfl, by decide +kernel, by decide +kernel⟩
theorem ok_mc {f : Addr} {fd : FuncData} (F : FunD K "_law_made_c" "_law_made_c" (defArgs sMc) (defBody sMc) (defScope sMc) [] [] f fd) (T : Ty P K mg c) : FnOk P w K mg base CX0 1 f fd ["word", "it", "is_named"] (spMade c tbC) := by
  refine F.ok scMc (fun vs H Q E h => ?_) (fun cdv A outer s H vs Q E hr h => ?_)
  · obtain ⟨_, _, _, rfl, _⟩ := h
    rfl
  obtain ⟨w, v, b, rfl, h⟩ := h
  have room := show (A.deeper (envOfC "_law_made_c" (defScope sMc) s.heap.objs.size f cdv)).depth + 1 < recursionLimit by have := hr.dp; omega
  refine ⟨_, PSs.nox (pss_cons (ps_if (pt_cmpR op_eq (pv 0) pe_str (nomark _)) (pss_one (ps_ret (pe_ifExp (pt_val (pv 2)) (pe_mkXK (T.wt "Uncaught" "paper") room T.super rfl (T.gt "Uncaught") (pv 1)) (pe_mkX (T.wt "Uncaught" "paper") room T.super rfl (T.gt "Uncaught") (pv 1))))) pss_nil)
      (pss_cons (ps_if (pt_cmpR op_eq (pv 0) pe_str (nomark _)) (pss_one (ps_ret (pe_ifExp (pt_val (pv 2)) (pe_mkXK (T.wt "BadName" "name") room T.super rfl (T.gt "BadName") (pv 1)) (pe_mkX (T.wt "BadName" "name") room T.super rfl (T.gt "BadName") (pv 1))))) pss_nil)
      (pss_cons (ps_if (pt_cmpR op_eq (pv 0) pe_str (nomark _)) (pss_one (ps_ret (pe_ifExp (pt_val (pv 2)) (pe_mkXK (T.wt "NameTaken" "name") room T.super rfl (T.gt "NameTaken") (pv 1)) (pe_mkX (T.wt "NameTaken" "name") room T.super rfl (T.gt "NameTaken") (pv 1))))) pss_nil)
      (pss_cons (ps_if (pt_cmpR op_eq (pv 0) pe_str (nomark _)) (pss_one (ps_ret (pe_ifExp (pt_val (pv 2)) (pe_mkXK (T.wt "NoWard" "name") room T.super rfl (T.gt "NoWard") (pv 1)) (pe_mkX (T.wt "NoWard" "name") room T.super rfl (T.gt "NoWard") (pv 1))))) pss_nil)
      (pss_cons (ps_if (pt_cmpR op_eq (pv 0) pe_str (nomark _)) (pss_one (ps_ret (pe_ifExp (pt_val (pv 2)) (pe_mkXK (T.wt "NotHeard" "heard") room T.super rfl (T.gt "NotHeard") (pv 1)) (pe_mkX (T.wt "NotHeard" "heard") room T.super rfl (T.gt "NotHeard") (pv 1))))) pss_nil)
      (pss_cons (ps_if (pt_cmpR op_eq (pv 0) pe_str (nomark _)) (pss_one (ps_ret (pe_ifExp (pt_val (pv 2)) (pe_mkXK (T.wt "NotAlike" "log") room T.super rfl (T.gt "NotAlike") (pv 1)) (pe_mkX (T.wt "NotAlike" "log") room T.super rfl (T.gt "NotAlike") (pv 1))))) pss_nil)
      (pss_one (ps_ret pe_non)))))))), ?_⟩
  refine mk_step h.1 fun z => ?_
  replace h := h.2 z
  refine mk_step h.1 fun z => ?_
  replace h := h.2 z
  refine mk_step h.1 fun z => ?_
  replace h := h.2 z
  refine mk_step h.1 fun z => ?_
  replace h := h.2 z
  refine mk_step h.1 fun z => ?_
  replace h := h.2 z
  refine mk_step h.1 fun z => ?_
  replace h := h.2 z
  exact h
theorem scMd : FnScope ["word", "it", "is_named"] ["word", "it", "is_named"] (defScope sMd) := ⟨rfl, rfl, rfl, by decide +kernel, rfl, by decide +kernel, by decide +kernel⟩
theorem ok_md {f : Addr} {fd : FuncData} (F : FunD K "_law_made_d" "_law_made_d" (defArgs sMd) (defBody sMd) (defScope sMd) [] [] f fd) (T : Ty P K mg c) : FnOk P w K mg base CX0 1 f fd ["word", "it", "is_named"] (spMade c tbD) := by
  refine F.ok scMd (fun vs H Q E h => ?_) (fun cdv A outer s H vs Q E hr h => ?_)
  · obtain ⟨_, _, _, rfl, _⟩ := h
    rfl
  obtain ⟨w, v, b, rfl, h⟩ := h
  have room := show (A.deeper (envOfC "_law_made_d" (defScope sMd) s.heap.objs.size f cdv)).depth + 1 < recursionLimit by have := hr.dp; omega
  refine ⟨_, PSs.nox (pss_cons (ps_if (pt_cmpR op_eq (pv 0) pe_str (nomark _)) (pss_one (ps_ret (pe_ifExp (pt_val (pv 2)) (pe_mkXK (T.wt "Harmful" "paper") room T.super rfl (T.gt "Harmful") (pv 1)) (pe_mkX (T.wt "Harmful" "paper") room T.super rfl (T.gt "Harmful") (pv 1))))) pss_nil)
      (pss_cons (ps_if (pt_cmpR op_eq (pv 0) pe_str (nomark _)) (pss_one (ps_ret (pe_ifExp (pt_val (pv 2)) (pe_mkXK (T.wt "BadRule" "part") room T.super rfl (T.gt "BadRule") (pv 1)) (pe_mkX (T.wt "BadRule" "part") room T.super rfl (T.gt "BadRule") (pv 1))))) pss_nil)
      (pss_cons (ps_if (pt_cmpR op_eq (pv 0) pe_str (nomark _)) (pss_one (ps_ret (pe_ifExp (pt_val (pv 2)) (pe_mkXK (T.wt "Disobeyed" "paper") room T.super rfl (T.gt "Disobeyed") (pv 1)) (pe_mkX (T.wt "Disobeyed" "paper") room T.super rfl (T.gt "Disobeyed") (pv 1))))) pss_nil)
      (pss_cons (ps_if (pt_cmpR op_eq (pv 0) pe_str (nomark _)) (pss_one (ps_ret (pe_ifExp (pt_val (pv 2)) (pe_mkXK (T.wt "Unheld" "paper") room T.super rfl (T.gt "Unheld") (pv 1)) (pe_mkX (T.wt "Unheld" "paper") room T.super rfl (T.gt "Unheld") (pv 1))))) pss_nil)
      (pss_cons (ps_if (pt_cmpR op_eq (pv 0) pe_str (nomark _)) (pss_one (ps_ret (pe_ifExp (pt_val (pv 2)) (pe_mkXK (T.wt "NeverTold" "paper") room T.super rfl (T.gt "NeverTold") (pv 1)) (pe_mkX (T.wt "NeverTold" "paper") room T.super rfl (T.gt "NeverTold") (pv 1))))) pss_nil)
      (pss_one (ps_ret pe_non))))))), ?_⟩
  refine mk_step h.1 fun z => ?_
  replace h := h.2 z
  refine mk_step h.1 fun z => ?_
  replace h := h.2 z
  refine mk_step h.1 fun z => ?_
  replace h := h.2 z
  refine mk_step h.1 fun z => ?_
  replace h := h.2 z
  refine mk_step h.1 fun z => ?_
  replace h := h.2 z
  exact h
theorem scMbare : FnScope ["word"] ["word"] (defScope sMbare) := ⟨rfl, rfl, rfl, by decide +kernel, rfl, by decide +kernel, by decide +kernel⟩
theorem ok_mbare {f : Addr} {fd : FuncData} (F : FunD K "_law_made_bare" "_law_made_bare" (defArgs sMbare) (defBody sMbare) (defScope sMbare) [] [] f fd) (T : Ty P K mg c) : FnOk P w K mg base CX0 1 f fd ["word"] (spBare c tbE) := by
  refine F.ok scMbare (fun vs H Q E h => ?_) (fun cdv A outer s H vs Q E hr h => ?_)
  · obtain ⟨_, rfl, _⟩ := h
    rfl
  obtain ⟨w, rfl, h⟩ := h
  refine ⟨_, PSs.nox (pss_cons (ps_if (pt_cmpR op_eq (pv 0) pe_str (nomark _)) (pss_one (ps_ret (pe_mkN (T.nt "OtherFaces") rfl (T.gt "OtherFaces")))) pss_nil)
      (pss_cons (ps_if (pt_cmpR op_eq (pv 0) pe_str (nomark _)) (pss_one (ps_ret (pe_mkN (T.nt "NothingToUndo") rfl (T.gt "NothingToUndo")))) pss_nil)
      (pss_cons (ps_if (pt_cmpR op_eq (pv 0) pe_str (nomark _)) (pss_one (ps_ret (pe_mkN (T.nt "NothingToRedo") rfl (T.gt "NothingToRedo")))) pss_nil)
      (pss_cons (ps_if (pt_cmpR op_eq (pv 0) pe_str (nomark _)) (pss_one (ps_ret (pe_mkN (T.nt "InvalidCommand") rfl (T.gt "InvalidCommand")))) pss_nil)
      (pss_one (ps_ret pe_non)))))), ?_⟩
  refine bare_step h.1 fun z => ?_
  replace h := h.2 z
  refine bare_step h.1 fun z => ?_
  replace h := h.2 z
  refine bare_step h.1 fun z => ?_
  replace h := h.2 z
  refine bare_step h.1 fun z => ?_
  replace h := h.2 z
  exact h
end
end K01

set_option Elab.async false
set_option linter.all false
set_option maxRecDepth 100000
set_option maxHeartbeats 4000000
namespace K01
open PySem PySem.Spec PyProof.Rows L2 Rw
abbrev sMade : Stmt := top 42
abbrev NMade : List Str := ["word", "it", "is_named", "some", "e"]
/-- what one maker gives: None, or the error -/
def Got (c : Str → Addr) (tb : List (Str × Str)) (w : Str) (v : V) (e : V) (H' : Hp) : Prop :=
  (tb.lookup w = none ∧ e = .non) ∨ ∃ p a d, tb.lookup w = some p ∧ e = .ref a ∧ H' a = some (xoO a (c w) (some d)) ∧ H' d = some (.xd [(p, v)])
theorem mkT_of {c : Str → Addr} {w : Str} {v : V} {H : Hp} {Q : VK} : ∀ {tb : List (Str × Str)}, (∀ e H', Same H H' → Got c tb w v e H' → Q e H') → MkT c w v H Q tb
  | [], h => h _ _ (Same.refl _) (.inl ⟨rfl, rfl⟩)
  | (x, p) :: t, h => by
    refine ⟨fun z => ?_, fun z => mkT_of fun e H' s g => h e H' s ?_⟩
    · subst z
      intro a d ha hd ne
      refine h _ _ (fun b o q => ?_) (.inr ⟨p, a, d, by simp [List.lookup], rfl, upd_same, ?_⟩)
      · rw [upd_ne (ne_of_none q ha), upd_ne (ne_of_none q hd)]
        exact q
      · rw [upd_ne ne, upd_same]
    · have e1 : (w == x) = false := by simpa using z
      have e2 : List.lookup w ((x, p) :: t) = t.lookup w := by simp [List.lookup, e1]
      unfold Got
      rw [e2]
      exact g
def GotN (c : Str → Addr) (tb : List Str) (w : Str) (e : V) (H' : Hp) : Prop := (w ∉ tb ∧ e = .non) ∨ ∃ a, w ∈ tb ∧ e = .ref a ∧ H' a = some (xoO a (c w) none)
theorem mkN_of {c : Str → Addr} {w : Str} {H : Hp} {Q : VK} : ∀ {tb : List Str}, (∀ e H', Same H H' → GotN c tb w e H' → Q e H') → MkN c w H Q tb
  | [], h => h _ _ (Same.refl _) (.inl ⟨by simp, rfl⟩)
  | x :: t, h => by
    refine ⟨fun z => ?_, fun z => mkN_of fun e H' s g => h e H' s ?_⟩
    · subst z
      intro a ha
      refine h _ _ (fun b o q => ?_) (.inr ⟨a, by simp, rfl, upd_same⟩)
      rw [upd_ne (ne_of_none q ha)]
      exact q
    · rcases g with ⟨g1, g2⟩ | ⟨a, g1, g2⟩
      · exact .inl ⟨by simp [z, g1], g2⟩
      · exact .inr ⟨a, by simp [g1], g2⟩
/-- the error of the name w that bears v -/
def Err (c : Str → Addr) (w : Str) (v : V) (e : V) (H' : Hp) : Prop :=
  ∃ a dd, e = .ref a ∧ H' a = some (xoO a (c w) dd) ∧ ((∃ p d, tab.lookup w = some p ∧ dd = some d ∧ H' d = some (.xd [(p, v)])) ∨ (w ∈ tbE ∧ dd = none))
theorem Got.no {c : Str → Addr} {tb : List (Str × Str)} {w : Str} {v e : V} {H' : Hp} (g : Got c tb w v e H') (h : tb.lookup w = none) : e = .non := by
  rcases g with ⟨_, g⟩ | ⟨p, _, _, g, _⟩
  · exact g
  · rw [h] at g
    cases g
theorem Got.yes {c : Str → Addr} {tb : List (Str × Str)} {w : Str} {v e : V} {H' H2 : Hp} (g : Got c tb w v e H') (s : Same H' H2) (h : (tb.lookup w).isSome = true ∧ tab.lookup w = tb.lookup w) : ∃ a, e = .ref a ∧ Err c w v (.ref a) H2 := by
  rcases g with ⟨g, _⟩ | ⟨p, a, d, g1, g2, g3, g4⟩
  · rw [g] at h
    cases h.1
  · exact ⟨a, g2, a, some d, rfl, s _ _ g3, .inl ⟨p, d, h.2.trans g1, rfl, s _ _ g4⟩⟩
theorem GotN.no {c : Str → Addr} {tb : List Str} {w : Str} {e : V} {H' : Hp} (g : GotN c tb w e H') (h : w ∉ tb) : e = .non := by
  rcases g with ⟨_, g⟩ | ⟨_, g, _⟩
  · exact g
  · exact absurd g h
theorem GotN.yes {c : Str → Addr} {w : Str} {v e : V} {H' H2 : Hp} (g : GotN c tbE w e H') (s : Same H' H2) (h : w ∈ tbE) : ∃ a, e = .ref a ∧ Err c w v (.ref a) H2 := by
  rcases g with ⟨g, _⟩ | ⟨a, g1, g2, g3⟩
  · exact absurd h g
  · exact ⟨a, g2, a, none, rfl, s _ _ g3, .inr ⟨h, rfl⟩⟩
def In (tb : List (Str × Str)) (w : Str) : Prop := (tb.lookup w).isSome = true ∧ tab.lookup w = tb.lookup w
theorem which : ∀ w ∈ names, (w ∈ tbE ∧ tbA.lookup w = none ∧ tbB.lookup w = none ∧ tbC.lookup w = none ∧ tbD.lookup w = none) ∨ (w ∉ tbE ∧ ((tbA.lookup w).isSome = true ∧ tab.lookup w = tbA.lookup w) ∧ tbB.lookup w = none ∧ tbC.lookup w = none ∧ tbD.lookup w = none)
    ∨ (w ∉ tbE ∧ tbA.lookup w = none ∧ ((tbB.lookup w).isSome = true ∧ tab.lookup w = tbB.lookup w) ∧ tbC.lookup w = none ∧ tbD.lookup w = none) ∨ (w ∉ tbE ∧ tbA.lookup w = none ∧ tbB.lookup w = none ∧ ((tbC.lookup w).isSome = true ∧ tab.lookup w = tbC.lookup w) ∧ tbD.lookup w = none)
    ∨ (w ∉ tbE ∧ tbA.lookup w = none ∧ tbB.lookup w = none ∧ tbC.lookup w = none ∧ ((tbD.lookup w).isSome = true ∧ tab.lookup w = tbD.lookup w)) := by decide +kernel
def spMadeAll (c : Str → Addr) : Sp := fun vs H Q _ => ∃ (w : Str) (v : V) (b : Bool), vs = [.str w, v, .bl b] ∧ w ∈ names ∧ ∀ e H', Same H H' → Err c w v e H' → Q e H'
section
variable {P : Program} {w : World} {K : PySem.W.Frag} {mg : Str → Option Value} {base : Heap} {c : Str → Addr}
theorem scMade : FnScope NMade ["word", "it", "is_named"] (defScope sMade) := ⟨rfl, rfl, rfl, by decide +kernel, rfl, by decide +kernel, by decide +kernel⟩
theorem ok_made {f : Addr} {fd : FuncData} (F : FunD K "_law_made" "_law_made" (defArgs sMade) (defBody sMade) (defScope sMade) [] [] f fd) (T : Ty P K mg c)
    {fa fb fc fd' fe : Addr} {fda fdb fdc fdd fde : FuncData}
    (Fa : FunD K "_law_made_a" "_law_made_a" (defArgs sMa) (defBody sMa) (defScope sMa) [] [] fa fda) (ma : mg "_law_made_a" = some (.ref fa))
    (Fb : FunD K "_law_made_b" "_law_made_b" (defArgs sMb) (defBody sMb) (defScope sMb) [] [] fb fdb) (mb : mg "_law_made_b" = some (.ref fb))
    (Fc : FunD K "_law_made_c" "_law_made_c" (defArgs sMc) (defBody sMc) (defScope sMc) [] [] fc fdc) (mc : mg "_law_made_c" = some (.ref fc))
    (Fd : FunD K "_law_made_d" "_law_made_d" (defArgs sMd) (defBody sMd) (defScope sMd) [] [] fd' fdd) (md : mg "_law_made_d" = some (.ref fd'))
    (Fe : FunD K "_law_made_bare" "_law_made_bare" (defArgs sMbare) (defBody sMbare) (defScope sMbare) [] [] fe fde) (me : mg "_law_made_bare" = some (.ref fe)) :
    FnOk P w K mg base CX0 2 f fd ["word", "it", "is_named"] (spMadeAll c) := by
  have Ga : FnOk P w K mg base CX0 1 fa fda ["word", "it", "is_named"] (spMade c tbA) := ok_ma Fa T
  have Gb : FnOk P w K mg base CX0 1 fb fdb ["word", "it", "is_named"] (spMade c tbB) := ok_mb Fb T
  have Gc : FnOk P w K mg base CX0 1 fc fdc ["word", "it", "is_named"] (spMade c tbC) := ok_mc Fc T
  have Gd : FnOk P w K mg base CX0 1 fd' fdd ["word", "it", "is_named"] (spMade c tbD) := ok_md Fd T
  have Ge : FnOk P w K mg base CX0 1 fe fde ["word"] (spBare c tbE) := ok_mbare Fe T
  have ba : Binds K fda ["word", "it", "is_named"] [] := Fa.bindsN fun _ _ _ _ _ _ us hl => match us, hl with | [_, _, _], _ => rfl
  have bb : Binds K fdb ["word", "it", "is_named"] [] := Fb.bindsN fun _ _ _ _ _ _ us hl => match us, hl with | [_, _, _], _ => rfl
  have bc : Binds K fdc ["word", "it", "is_named"] [] := Fc.bindsN fun _ _ _ _ _ _ us hl => match us, hl with | [_, _, _], _ => rfl
  have bd : Binds K fdd ["word", "it", "is_named"] [] := Fd.bindsN fun _ _ _ _ _ _ us hl => match us, hl with | [_, _, _], _ => rfl
  have be : Binds K fde ["word"] [] := Fe.bindsN fun _ _ _ _ _ _ us hl => match us, hl with | [_], _ => rfl
  refine F.ok scMade (fun vs H Q E h => ?_) (fun cdv A outer s H vs Q E hr h => ?_)
  · obtain ⟨_, _, _, rfl, _⟩ := h
    rfl
  obtain ⟨w, v, b, rfl, hw, hq⟩ := h
  refine ⟨_, PSs.nox (pss_cons (ps_set (i := 3) scMade.nd rfl (Or.inl rfl) (pe_lst (pa_cons (pe_call Ge (hr.mono (by decide)) rfl me Fe.kp be .nil pass0 (pa_cons (pv 0) pa_nil)) (pa_cons (pe_call Ga (hr.mono (by decide)) rfl ma Fa.kp ba .nil pass0 (pa_cons (pv 0) (pa_cons (pv 1) (pa_cons (pv 2) pa_nil)))) (pa_cons (pe_call Gb (hr.mono (by decide)) rfl mb Fb.kp bb .nil pass0 (pa_cons (pv 0) (pa_cons (pv 1) (pa_cons (pv 2) pa_nil)))) pa_nil)))))
      (pss_cons (ps_set (i := 3) scMade.nd rfl (Or.inl rfl) (pe_op op_cat (pv 3) (pe_lst (pa_cons (pe_call Gc (hr.mono (by decide)) rfl mc Fc.kp bc .nil pass0 (pa_cons (pv 0) (pa_cons (pv 1) (pa_cons (pv 2) pa_nil)))) (pa_cons (pe_call Gd (hr.mono (by decide)) rfl md Fd.kp bd .nil pass0 (pa_cons (pv 0) (pa_cons (pv 1) (pa_cons (pv 2) pa_nil)))) pa_nil)))))
      (pss_one (ps_ret (pe_ix ix_list (pe_lc (own := [("e", 4)]) rfl scMade.nd (pi_list (pv 3)) (blkOk_by (N := NMade) (sc := defScope sMade) (by decide +kernel)) (fun _ _ _ _ _ => (pg_name (i := 4) scMade.nd rfl (Or.inl rfl))) (fun _ _ _ _ _ => (pts_one (pt_cmpR op_notN (pv 4) pe_non (nomark _)))) (fun _ _ _ _ _ => (pv 4))) pe_int (fun _ _ => rfl)))))), ?_⟩
  refine ⟨_, rfl, w, rfl, mkN_of fun e0 H0 s0 g0 => ?_⟩
  refine ⟨_, rfl, _, rfl, _, rfl, w, v, b, rfl, mkT_of fun e1 H1 s1 g1 => ?_⟩
  refine ⟨_, rfl, _, rfl, _, rfl, w, v, b, rfl, mkT_of fun e2 H2 s2 g2 => ?_⟩
  refine ⟨by show 3 ≤ _; decide, fun l1 hl1 => ?_⟩
  refine ⟨_, rfl, _, rfl, _, rfl, _, rfl, w, v, b, rfl, mkT_of fun e3 H3 s3 g3 => ?_⟩
  refine ⟨_, rfl, _, rfl, _, rfl, w, v, b, rfl, mkT_of fun e4 H4 s4 g4 => ?_⟩
  clear Fa Fb Fc Fd Fe Ga Gb Gc Gd Ge ba bb bc bd be ma mb mc md me F T
  refine ⟨by show 2 ≤ _; decide, fun l2 hl2 => ?_⟩
  generalize eX : upd H4 l2 (HO.lst [e3, e4]) = H5
  have n45 : Same H4 H5 := fun a o z => by rw [← eX, upd_ne (ne_of_none z hl2)]; exact z
  have n23 : Same H2 (upd H2 l1 (HO.lst [e0, e1, e2])) := fun a o z => by rw [upd_ne (ne_of_none z hl1)]; exact z
  have q3 : H3 l1 = some (.lst [e0, e1, e2]) := s3 _ _ upd_same
  have q5 : H5 l1 = some (.lst [e0, e1, e2]) := n45 _ _ (s4 _ _ q3)
  have r5 : H5 l2 = some (.lst [e3, e4]) := by rw [← eX, upd_same]
  have n35 : Same H3 H5 := s4.trans n45
  have n25 : Same H2 H5 := (n23.trans s3).trans n35
  have n15 : Same H1 H5 := s2.trans n25
  have n05 : Same H0 H5 := s1.trans n15
  refine ⟨l1, l2, _, _, rfl, rfl, q5, r5, (by show 5 ≤ sizeLine; decide), fun l3 hl3 => ?_⟩
  generalize eY : upd H5 l3 (HO.lst ([e0, e1, e2] ++ [e3, e4])) = H6
  have n56 : Same H5 H6 := fun a o z => by rw [← eY, upd_ne (ne_of_none z hl3)]; exact z
  have q6 : H6 l3 = some (.lst [e0, e1, e2, e3, e4]) := by rw [← eY, upd_same]; rfl
  refine ⟨_, rfl, l3, rfl, ?_⟩
  refine ⟨⟨_, SqL.of q6⟩, fun D hD => ?_⟩
  have at_ : ∀ {a : Addr} {o : HO} (ys : List V), H6 a = some o → upd H6 D (.lst ys) a = some o := fun ys z => by rw [upd_ne (ne_of_none z hD)]; exact z
  refine lc_list (xs := [e0, e1, e2, e3, e4]) (fun i H' => H' = upd H6 D (.lst (([e0, e1, e2, e3, e4].take i).filter fun x => !decide (x = V.non)))) rfl ?_ ?_ ?_
  · rintro i _ _ rfl
    exact SqL.of (at_ _ q6)
  · rintro i x _ hx rfl
    have et : ([e0, e1, e2, e3, e4].take (i + 1)) = [e0, e1, e2, e3, e4].take i ++ [x] := by rw [List.take_add_one, hx]; rfl
    refine ⟨rfl, _, rfl, rfl, _, rfl, ?_⟩
    have lb : (([e0, e1, e2, e3, e4].take i).filter fun x => !decide (x = V.non)).length < sizeLine := by
      refine Nat.lt_of_le_of_lt (List.length_filter_le _ _) (Nat.lt_of_le_of_lt (List.length_take_le' _ _) ?_)
      show 5 < sizeLine
      decide
    by_cases hn : x = V.non
    · have e1 : (!decide (x = V.non)) = false := by simp [hn]
      rw [e1, et, List.filter_append, List.filter_cons, e1]
      refine iteF ?_
      simp
    · have e1 : (!decide (x = V.non)) = true := by simp [hn]
      rw [e1, et, List.filter_append, List.filter_cons, e1]
      refine iteT ⟨_, rfl, _, upd_same, lb, ?_⟩
      rw [upd_upd]
      simp
  rintro _ rfl
  rw [show ([e0, e1, e2, e3, e4].take [e0, e1, e2, e3, e4].length) = [e0, e1, e2, e3, e4] from rfl]
  have s6 : Same H5 H6 := n56
  have sD : Same H6 (upd H6 D (.lst (([e0, e1, e2, e3, e4]).filter fun x => !decide (x = V.non)))) := fun a o z => at_ _ z
  have fin : ∀ a, ([e0, e1, e2, e3, e4].filter fun x => !decide (x = V.non)) = [.ref a] → Err c w v (.ref a) H5 → rIxL K (.ref D) (.int 0) (upd H6 D (.lst (([e0, e1, e2, e3, e4]).filter fun x => !decide (x = V.non)))) Q := by
    intro a ha he
    have s5 : Same H5 (upd H6 D (.lst [.ref a])) := by rw [← ha]; exact s6.trans sD
    refine ⟨D, _, 0, .ref a, rfl, rfl, SqL.of upd_same, by rw [ha]; rfl, ?_⟩
    rw [ha]
    refine hq _ _ ((s0.trans n05).trans s5) ?_
    obtain ⟨a', dd, h1, h2, h3⟩ := he
    refine ⟨a', dd, h1, s5 _ _ h2, ?_⟩
    rcases h3 with ⟨p, d, k1, k2, k3⟩ | k
    · exact .inl ⟨p, d, k1, k2, s5 _ _ k3⟩
    · exact .inr k
  show rIxL K (.ref D) (.int 0) _ Q
  rcases which w hw with ⟨h0, h1, h2, h3, h4⟩ | ⟨h0, h1, h2, h3, h4⟩ | ⟨h0, h1, h2, h3, h4⟩ | ⟨h0, h1, h2, h3, h4⟩ | ⟨h0, h1, h2, h3, h4⟩
  · obtain ⟨a, rfl, z⟩ := g0.yes (v := v) n05 h0
    cases g1.no h1; cases g2.no h2; cases g3.no h3; cases g4.no h4
    exact fin a (by simp) z
  · obtain ⟨a, rfl, z⟩ := g1.yes n15 h1
    cases g0.no h0; cases g2.no h2; cases g3.no h3; cases g4.no h4
    exact fin a (by simp) z
  · obtain ⟨a, rfl, z⟩ := g2.yes n25 h2
    cases g0.no h0; cases g1.no h1; cases g3.no h3; cases g4.no h4
    exact fin a (by simp) z
  · obtain ⟨a, rfl, z⟩ := g3.yes n35 h3
    cases g0.no h0; cases g1.no h1; cases g2.no h2; cases g4.no h4
    exact fin a (by simp) z
  · obtain ⟨a, rfl, z⟩ := g4.yes n45 h4
    cases g0.no h0; cases g1.no h1; cases g2.no h2; cases g3.no h3
    exact fin a (by simp) z
end
end K01

set_option Elab.async false
set_option linter.all false
set_option maxRecDepth 100000
set_option maxHeartbeats 4000000
namespace K01
open PySem PySem.Spec PyProof.Rows L2 Rw
abbrev sSorts : Stmt := top 38
abbrev NSorts : List Str := ["e", "some", "word", "is_so"]
theorem rel_ref (a : Addr) : RelV (.ref a) (.ref a) := rfl
theorem boot_Exc : bootBuiltins "Exception" = some (.type "Exception") := by decide +kernel
theorem p_app {α β : Type} {F : α → β → Prop} : ∀ {a : List α} {b : List β} {c : List α} {d : List β}, Paired F a b → Paired F c d → Paired F (a ++ c) (b ++ d)
  | _, _, _, _, .nil, q => q
  | _, _, _, _, .cons r t, q => .cons r (p_app t q)
theorem p_at {α β : Type} {F : α → β → Prop} : ∀ {a : List α} {b : List β} {i : Nat} {x : α}, Paired F a b → a[i]? = some x → ∃ y, b[i]? = some y ∧ F x y
  | _, _, 0, _, .cons r t, h => by cases h; exact ⟨_, rfl, r⟩
  | _, _, i + 1, _, .cons r t, h => p_at (i := i) t h
theorem p_len {α β : Type} {F : α → β → Prop} : ∀ {a : List α} {b : List β}, Paired F a b → a.length = b.length
  | _, _, .nil => rfl
  | _, _, .cons r t => by simp [p_len t]
/-- a tracked error of class c w -/
def Exc (a C : Addr) (dd : Option Addr) (H : Hp) : Prop := H a = some (xoO a C dd) ∧ ∀ d, dd = some d → ∃ fs, H d = some (.xd fs)
theorem Exc.mono {a C : Addr} {dd : Option Addr} {H H' : Hp} (h : Exc a C dd H) (s : Same H H') : Exc a C dd H' := ⟨s _ _ h.1, fun d e => (h.2 d e).imp fun _ z => s _ _ z⟩
def sortN : List Str := ["BadBook", "BadDevice", "BadWard", "BadGuest", "BadOnlooker", "BadText", "BadChoice", "TooMany", "CannotCome", "Refused", "NeverSure", "NeverStays", "Uncaught", "OtherFaces", "BadName", "NameTaken", "NoWard", "NotHeard", "NotAlike", "Harmful", "NothingToUndo", "NothingToRedo", "InvalidCommand", "BadRule", "Disobeyed", "Unheld", "NeverTold"]
def Pr (w : Str) (H : Hp) : V → Str → Prop := fun p x => ∃ a, p = .ref a ∧ H a = some (.tup [.str x, .bl (decide (w = x))])
theorem Pr.mono {w : Str} {H H' : Hp} (s : Same H H') {p : V} {x : Str} (h : Pr w H p x) : Pr w H' p x := h.imp fun _ z => ⟨z.1, s _ _ z.2⟩
def spSorts (c : Str → Addr) : Sp := fun vs H Q _ => ∃ (a : Addr) (w : Str) (dd : Option Addr), vs = [.ref a] ∧ w ∈ allN ∧ Exc a (c w) dd H ∧ ∀ l H', Same H H' → H' l = some (.lst ((sortN.filter fun x => decide (w = x)).map V.str)) → Q (.ref l) H'
section
variable {P : Program} {w : World} {K : PySem.W.Frag} {mg : Str → Option Value} {base : Heap} {c : Str → Addr}
theorem Ty.xc (T : Ty P K mg c) {x : Str} (h : x ∈ allN) : XcC K (c x) := by
  have k : ∀ x ∈ allN, x ∈ bareN ∨ ∃ y ∈ tab, y.1 = x := by
    intro x h
    rcases List.mem_cons.mp h with h | h
    · exact .inl (List.mem_cons.mpr (.inl h))
    · rcases List.mem_append.mp h with h | h
      · obtain ⟨y, h1, h2⟩ := List.mem_map.mp h
        exact .inr ⟨y, h1, h2⟩
      · exact .inl (List.mem_cons.mpr (.inr h))
  rcases k x h with h | ⟨y, k, rfl⟩
  · exact (T.wn x h).toXcC
  · exact (T.wx y k).toXcC
/-- ('x', isinstance(e, x)) -/
def pr (K : PySem.W.Frag) (c : Str → Addr) (x : Str) : TE := tTup (tCons (tC (.str x)) (tCons (tCB (rIsX K) (tCons (tVar 0) (tCons (tC (.ref (c x))) tNil))) tNil))
def prs (K : PySem.W.Frag) (c : Str → Addr) : List Str → TA
  | [] => tNil
  | x :: t => tCons (pr K c x) (prs K c t)
theorem prs_read (T : Ty P K mg c) {w : Str} {a : Addr} {dd : Option Addr} {σ : L2.St} (hw : w ∈ allN) (h0 : σ[0]? = some (some (.ref a))) : ∀ {xs : List Str} {H : Hp} {Q : List V → Hp → Prop}, (∀ x ∈ xs, x ∈ names) → Exc a (c w) dd H →
    (∀ ps H', Same H H' → Paired (Pr w H') ps xs → Q ps H') → prs K c xs σ H Q
  | [], H, Q, _, _, hq => hq _ _ (Same.refl _) .nil
  | x :: t, H, Q, hx, he, hq => by
    refine ⟨_, h0, a, c w, dd, _, _, _, rfl, he.1, he.2, T.xc hw, .own _, T.kit w hw x (hx x (by simp)), by show 2 ≤ sizeLine; decide, fun p hp => ?_⟩
    have s1 : Same H (upd H p (.tup [.str x, .bl (decide (w = x))])) := fun b o z => by rw [upd_ne (ne_of_none z hp)]; exact z
    refine prs_read T (dd := dd) hw h0 (fun y hy => hx y (by simp [hy])) (he.mono s1) fun ps H' s2 k => ?_
    exact hq _ _ (s1.trans s2) (.cons ⟨p, rfl, s2 _ _ upd_same⟩ k)
/-- some = [('x', isinstance(e, x)), ..] -/
theorem sorts0 (T : Ty P K mg c) {w : Str} {a : Addr} {dd : Option Addr} {σ : L2.St} {H : Hp} {F : Ends} {rest : TS} {t : TA} (xs : List Str) (ht : t = prs K c xs) (hw : w ∈ allN) (h0 : σ[0]? = some (some (.ref a))) (hx : ∀ x ∈ xs, x ∈ names) (hl : xs.length ≤ 1000) (he : Exc a (c w) dd H)
    (hq : ∀ l ps H', Same H H' → Paired (Pr w H') ps xs → H' l = some (.lst ps) → rest F (σ.set 1 (some (.ref l))) H') : tSeq (tAsg (tLst t) (gName 1)) rest F σ H := by
  subst ht
  refine prs_read T (w := w) (a := a) (dd := dd) hw h0 hx he fun ps H0 s0 k0 => ⟨Nat.le_trans (by rw [p_len k0]; exact hl) (by decide), fun p hp => ?_⟩
  have s1 : Same H0 (upd H0 p (.lst ps)) := fun b o z => by rw [upd_ne (ne_of_none z hp)]; exact z
  exact hq p ps _ (s0.trans s1) (L2.Paired.mapP k0 fun _ _ => Pr.mono s1) upd_same
/-- some = some + [('x', isinstance(e, x)), ..] -/
theorem sorts1 (T : Ty P K mg c) {w : Str} {a l : Addr} {dd : Option Addr} {σ : L2.St} {H : Hp} {F : Ends} {rest : TS} {t : TA} {ys : List Str} {qs : List V} (xs : List Str) (ht : t = prs K c xs) (hw : w ∈ allN) (h0 : σ[0]? = some (some (.ref a))) (h1 : σ[1]? = some (some (.ref l)))
    (hx : ∀ x ∈ xs, x ∈ names) (hl : xs.length ≤ 1000) (hly : ys.length ≤ 1000) (he : Exc a (c w) dd H) (hL : H l = some (.lst qs)) (hP : Paired (Pr w H) qs ys)
    (hq : ∀ l ps H', Same H H' → Paired (Pr w H') ps (ys ++ xs) → H' l = some (.lst ps) → rest F (σ.set 1 (some (.ref l))) H') : tSeq (tAsg (tOp rCat (tVar 1) (tLst t)) (gName 1)) rest F σ H := by
  subst ht
  refine ⟨_, h1, prs_read T (w := w) (a := a) (dd := dd) hw h0 hx he fun ps H0 s0 k0 => ⟨Nat.le_trans (by rw [p_len k0]; exact hl) (by decide), fun p hp => ?_⟩⟩
  have s1 : Same H0 (upd H0 p (.lst ps)) := fun b o z => by rw [upd_ne (ne_of_none z hp)]; exact z
  refine ⟨l, p, qs, ps, rfl, rfl, s1 _ _ (s0 _ _ hL), upd_same, Nat.le_trans (by rw [p_len k0, p_len hP]; exact Nat.add_le_add hly hl) (by decide), fun r hr => ?_⟩
  have s2 : Same (upd H0 p (.lst ps)) (upd (upd H0 p (.lst ps)) r (.lst (qs ++ ps))) := fun b o z => by rw [upd_ne (ne_of_none z hr)]; exact z
  exact hq r _ _ ((s0.trans s1).trans s2) (p_app (L2.Paired.mapP hP fun _ _ => Pr.mono ((s0.trans s1).trans s2)) (L2.Paired.mapP k0 fun _ _ => Pr.mono (s1.trans s2))) upd_same
theorem pg_tupK {X : Cx} {K : PySem.W.Frag} {es : List Expr} {k : Nat} {t : TGs} {n : Nat} {pos : Pos} (hK : X.K = K) (hc : X.calm = true) (h : PGs X es t)
    (hn : (assignEach es X.env).length = n := by rfl) (hst : (assignEach es X.env).findIdx? (·.1) = none := by rfl) : PG X (.Tuple es k pos) (gTup K n t) := by
  subst hK
  exact pg_tup hc h hn hst
theorem scSorts : FnScope NSorts ["e"] (defScope sSorts) := ⟨rfl, rfl, rfl, by decide +kernel, rfl, by decide +kernel, by decide +kernel⟩
theorem ok_sorts {f : Addr} {fd : FuncData} (F : FunD K "_law_sorts" "_law_sorts" (defArgs sSorts) (defBody sSorts) (defScope sSorts) [] [] f fd) (T : Ty P K mg c) : FnOk P w K mg base CX0 1 f fd ["e"] (spSorts c) := by
  refine F.ok scSorts (fun vs H Q E h => ?_) (fun cdv A outer s H vs Q E hr h => ?_)
  · obtain ⟨_, _, _, rfl, _⟩ := h
    rfl
  obtain ⟨a, w, dd, rfl, hw, he, hq⟩ := h
  refine ⟨_, PSs.nox (pss_cons (ps_set (i := 1) scSorts.nd rfl (Or.inl rfl) (pe_lst (pa_cons (pe_tup (pa_cons pe_str (pa_cons (pe_callB (call_isX T.wk) (by rfl) T.isin PyProof.Rows.boot_isinstance (pa_cons (pv 0) (pa_cons (pe_glob rfl (T.gt "BadBook") (rel_ref _)) pa_nil))) pa_nil))) (pa_cons (pe_tup (pa_cons pe_str (pa_cons (pe_callB (call_isX T.wk) (by rfl) T.isin PyProof.Rows.boot_isinstance (pa_cons (pv 0) (pa_cons (pe_glob rfl (T.gt "BadDevice") (rel_ref _)) pa_nil))) pa_nil))) (pa_cons (pe_tup (pa_cons pe_str (pa_cons (pe_callB (call_isX T.wk) (by rfl) T.isin PyProof.Rows.boot_isinstance (pa_cons (pv 0) (pa_cons (pe_glob rfl (T.gt "BadWard") (rel_ref _)) pa_nil))) pa_nil))) (pa_cons (pe_tup (pa_cons pe_str (pa_cons (pe_callB (call_isX T.wk) (by rfl) T.isin PyProof.Rows.boot_isinstance (pa_cons (pv 0) (pa_cons (pe_glob rfl (T.gt "BadGuest") (rel_ref _)) pa_nil))) pa_nil))) pa_nil))))))
      (pss_cons (ps_set (i := 1) scSorts.nd rfl (Or.inl rfl) (pe_op op_cat (pv 1) (pe_lst (pa_cons (pe_tup (pa_cons pe_str (pa_cons (pe_callB (call_isX T.wk) (by rfl) T.isin PyProof.Rows.boot_isinstance (pa_cons (pv 0) (pa_cons (pe_glob rfl (T.gt "BadOnlooker") (rel_ref _)) pa_nil))) pa_nil))) (pa_cons (pe_tup (pa_cons pe_str (pa_cons (pe_callB (call_isX T.wk) (by rfl) T.isin PyProof.Rows.boot_isinstance (pa_cons (pv 0) (pa_cons (pe_glob rfl (T.gt "BadText") (rel_ref _)) pa_nil))) pa_nil))) (pa_cons (pe_tup (pa_cons pe_str (pa_cons (pe_callB (call_isX T.wk) (by rfl) T.isin PyProof.Rows.boot_isinstance (pa_cons (pv 0) (pa_cons (pe_glob rfl (T.gt "BadChoice") (rel_ref _)) pa_nil))) pa_nil))) (pa_cons (pe_tup (pa_cons pe_str (pa_cons (pe_callB (call_isX T.wk) (by rfl) T.isin PyProof.Rows.boot_isinstance (pa_cons (pv 0) (pa_cons (pe_glob rfl (T.gt "TooMany") (rel_ref _)) pa_nil))) pa_nil))) pa_nil)))))))
      (pss_cons (ps_set (i := 1) scSorts.nd rfl (Or.inl rfl) (pe_op op_cat (pv 1) (pe_lst (pa_cons (pe_tup (pa_cons pe_str (pa_cons (pe_callB (call_isX T.wk) (by rfl) T.isin PyProof.Rows.boot_isinstance (pa_cons (pv 0) (pa_cons (pe_glob rfl (T.gt "CannotCome") (rel_ref _)) pa_nil))) pa_nil))) (pa_cons (pe_tup (pa_cons pe_str (pa_cons (pe_callB (call_isX T.wk) (by rfl) T.isin PyProof.Rows.boot_isinstance (pa_cons (pv 0) (pa_cons (pe_glob rfl (T.gt "Refused") (rel_ref _)) pa_nil))) pa_nil))) (pa_cons (pe_tup (pa_cons pe_str (pa_cons (pe_callB (call_isX T.wk) (by rfl) T.isin PyProof.Rows.boot_isinstance (pa_cons (pv 0) (pa_cons (pe_glob rfl (T.gt "NeverSure") (rel_ref _)) pa_nil))) pa_nil))) (pa_cons (pe_tup (pa_cons pe_str (pa_cons (pe_callB (call_isX T.wk) (by rfl) T.isin PyProof.Rows.boot_isinstance (pa_cons (pv 0) (pa_cons (pe_glob rfl (T.gt "NeverStays") (rel_ref _)) pa_nil))) pa_nil))) pa_nil)))))))
      (pss_cons (ps_set (i := 1) scSorts.nd rfl (Or.inl rfl) (pe_op op_cat (pv 1) (pe_lst (pa_cons (pe_tup (pa_cons pe_str (pa_cons (pe_callB (call_isX T.wk) (by rfl) T.isin PyProof.Rows.boot_isinstance (pa_cons (pv 0) (pa_cons (pe_glob rfl (T.gt "Uncaught") (rel_ref _)) pa_nil))) pa_nil))) (pa_cons (pe_tup (pa_cons pe_str (pa_cons (pe_callB (call_isX T.wk) (by rfl) T.isin PyProof.Rows.boot_isinstance (pa_cons (pv 0) (pa_cons (pe_glob rfl (T.gt "OtherFaces") (rel_ref _)) pa_nil))) pa_nil))) (pa_cons (pe_tup (pa_cons pe_str (pa_cons (pe_callB (call_isX T.wk) (by rfl) T.isin PyProof.Rows.boot_isinstance (pa_cons (pv 0) (pa_cons (pe_glob rfl (T.gt "BadName") (rel_ref _)) pa_nil))) pa_nil))) (pa_cons (pe_tup (pa_cons pe_str (pa_cons (pe_callB (call_isX T.wk) (by rfl) T.isin PyProof.Rows.boot_isinstance (pa_cons (pv 0) (pa_cons (pe_glob rfl (T.gt "NameTaken") (rel_ref _)) pa_nil))) pa_nil))) pa_nil)))))))
      (pss_cons (ps_set (i := 1) scSorts.nd rfl (Or.inl rfl) (pe_op op_cat (pv 1) (pe_lst (pa_cons (pe_tup (pa_cons pe_str (pa_cons (pe_callB (call_isX T.wk) (by rfl) T.isin PyProof.Rows.boot_isinstance (pa_cons (pv 0) (pa_cons (pe_glob rfl (T.gt "NoWard") (rel_ref _)) pa_nil))) pa_nil))) (pa_cons (pe_tup (pa_cons pe_str (pa_cons (pe_callB (call_isX T.wk) (by rfl) T.isin PyProof.Rows.boot_isinstance (pa_cons (pv 0) (pa_cons (pe_glob rfl (T.gt "NotHeard") (rel_ref _)) pa_nil))) pa_nil))) (pa_cons (pe_tup (pa_cons pe_str (pa_cons (pe_callB (call_isX T.wk) (by rfl) T.isin PyProof.Rows.boot_isinstance (pa_cons (pv 0) (pa_cons (pe_glob rfl (T.gt "NotAlike") (rel_ref _)) pa_nil))) pa_nil))) (pa_cons (pe_tup (pa_cons pe_str (pa_cons (pe_callB (call_isX T.wk) (by rfl) T.isin PyProof.Rows.boot_isinstance (pa_cons (pv 0) (pa_cons (pe_glob rfl (T.gt "Harmful") (rel_ref _)) pa_nil))) pa_nil))) pa_nil)))))))
      (pss_cons (ps_set (i := 1) scSorts.nd rfl (Or.inl rfl) (pe_op op_cat (pv 1) (pe_lst (pa_cons (pe_tup (pa_cons pe_str (pa_cons (pe_callB (call_isX T.wk) (by rfl) T.isin PyProof.Rows.boot_isinstance (pa_cons (pv 0) (pa_cons (pe_glob rfl (T.gt "NothingToUndo") (rel_ref _)) pa_nil))) pa_nil))) (pa_cons (pe_tup (pa_cons pe_str (pa_cons (pe_callB (call_isX T.wk) (by rfl) T.isin PyProof.Rows.boot_isinstance (pa_cons (pv 0) (pa_cons (pe_glob rfl (T.gt "NothingToRedo") (rel_ref _)) pa_nil))) pa_nil))) (pa_cons (pe_tup (pa_cons pe_str (pa_cons (pe_callB (call_isX T.wk) (by rfl) T.isin PyProof.Rows.boot_isinstance (pa_cons (pv 0) (pa_cons (pe_glob rfl (T.gt "InvalidCommand") (rel_ref _)) pa_nil))) pa_nil))) (pa_cons (pe_tup (pa_cons pe_str (pa_cons (pe_callB (call_isX T.wk) (by rfl) T.isin PyProof.Rows.boot_isinstance (pa_cons (pv 0) (pa_cons (pe_glob rfl (T.gt "BadRule") (rel_ref _)) pa_nil))) pa_nil))) pa_nil)))))))
      (pss_cons (ps_set (i := 1) scSorts.nd rfl (Or.inl rfl) (pe_op op_cat (pv 1) (pe_lst (pa_cons (pe_tup (pa_cons pe_str (pa_cons (pe_callB (call_isX T.wk) (by rfl) T.isin PyProof.Rows.boot_isinstance (pa_cons (pv 0) (pa_cons (pe_glob rfl (T.gt "Disobeyed") (rel_ref _)) pa_nil))) pa_nil))) (pa_cons (pe_tup (pa_cons pe_str (pa_cons (pe_callB (call_isX T.wk) (by rfl) T.isin PyProof.Rows.boot_isinstance (pa_cons (pv 0) (pa_cons (pe_glob rfl (T.gt "Unheld") (rel_ref _)) pa_nil))) pa_nil))) (pa_cons (pe_tup (pa_cons pe_str (pa_cons (pe_callB (call_isX T.wk) (by rfl) T.isin PyProof.Rows.boot_isinstance (pa_cons (pv 0) (pa_cons (pe_glob rfl (T.gt "NeverTold") (rel_ref _)) pa_nil))) pa_nil))) pa_nil))))))
      (pss_one (ps_ret (pe_lc (own := [("word", 2), ("is_so", 3)]) rfl scSorts.nd (pi_list (pv 1)) (blkOk_by (N := NSorts) (sc := defScope sSorts) (by decide +kernel)) (fun _ _ _ _ _ => (pg_tupK (K := K) (n := 2) rfl (by rfl) (pgs_cons (pg_name (i := 2) scSorts.nd rfl (Or.inl rfl)) (pgs_cons (pg_name (i := 3) scSorts.nd rfl (Or.inl rfl)) pgs_nil)))) (fun _ _ _ _ _ => (pts_one (pt_val (pv 3)))) (fun _ _ _ _ _ => (pv 2)))))))))))), ?_⟩
  refine sorts0 T (w := w) (a := a) (dd := dd) ["BadBook", "BadDevice", "BadWard", "BadGuest"] rfl hw rfl (by decide +kernel) (by decide) he fun l0 p0 H0 s0 k0 g0 => ?_
  refine sorts1 T (w := w) (a := a) (l := l0) (dd := dd) ["BadOnlooker", "BadText", "BadChoice", "TooMany"] rfl hw rfl rfl (by decide +kernel) (by decide) (by decide) (he.mono s0) g0 k0 fun l1 p1 H1 s1 k1 g1 => ?_
  replace s1 := s0.trans s1
  refine sorts1 T (w := w) (a := a) (l := l1) (dd := dd) ["CannotCome", "Refused", "NeverSure", "NeverStays"] rfl hw rfl rfl (by decide +kernel) (by decide) (by decide) (he.mono s1) g1 k1 fun l2 p2 H2 s2 k2 g2 => ?_
  replace s2 := s1.trans s2
  refine sorts1 T (w := w) (a := a) (l := l2) (dd := dd) ["Uncaught", "OtherFaces", "BadName", "NameTaken"] rfl hw rfl rfl (by decide +kernel) (by decide) (by decide) (he.mono s2) g2 k2 fun l3 p3 H3 s3 k3 g3 => ?_
  replace s3 := s2.trans s3
  refine sorts1 T (w := w) (a := a) (l := l3) (dd := dd) ["NoWard", "NotHeard", "NotAlike", "Harmful"] rfl hw rfl rfl (by decide +kernel) (by decide) (by decide) (he.mono s3) g3 k3 fun l4 p4 H4 s4 k4 g4 => ?_
  replace s4 := s3.trans s4
  refine sorts1 T (w := w) (a := a) (l := l4) (dd := dd) ["NothingToUndo", "NothingToRedo", "InvalidCommand", "BadRule"] rfl hw rfl rfl (by decide +kernel) (by decide) (by decide) (he.mono s4) g4 k4 fun l5 p5 H5 s5 k5 g5 => ?_
  replace s5 := s4.trans s5
  refine sorts1 T (w := w) (a := a) (l := l5) (dd := dd) ["Disobeyed", "Unheld", "NeverTold"] rfl hw rfl rfl (by decide +kernel) (by decide) (by decide) (he.mono s5) g5 k5 fun l6 p6 H6 s6 k6 g6 => ?_
  replace s6 := s5.trans s6
  have ks : Paired (Pr w H6) p6 sortN := k6
  refine ⟨_, rfl, l6, rfl, ⟨_, SqL.of g6⟩, fun D hD => ?_⟩
  have at_ : ∀ {a : Addr} {o : HO} (ys : List V), H6 a = some o → upd H6 D (.lst ys) a = some o := fun ys z => by rw [upd_ne (ne_of_none z hD)]; exact z
  have pl : p6.length = 27 := p_len ks
  refine lc_list (xs := p6) (fun i H' => H' = upd H6 D (.lst (((sortN.take i).filter fun x => decide (w = x)).map V.str))) rfl ?_ ?_ ?_
  · rintro i _ _ rfl
    exact SqL.of (at_ _ g6)
  · rintro i x _ hx rfl
    obtain ⟨y, hy, b, rfl, hb⟩ := p_at ks hx
    have et : sortN.take (i + 1) = sortN.take i ++ [y] := by rw [List.take_add_one, hy]; rfl
    refine ⟨b, _, rfl, SqT.of (at_ _ hb), rfl, _, _, rfl, _, _, rfl, rfl, rfl, _, rfl, _, rfl, ?_⟩
    have lb : (((sortN.take i).filter fun x => decide (w = x)).map V.str).length < sizeLine := by
      rw [List.length_map]
      refine Nat.lt_of_le_of_lt (List.length_filter_le _ _) (Nat.lt_of_le_of_lt (List.length_take_le' _ _) ?_)
      decide +kernel
    by_cases hn : w = y
    · have e1 : (decide (w = y)) = true := by simp [hn]
      rw [e1, et, List.filter_append, List.filter_cons, e1]
      refine iteT ⟨_, rfl, _, upd_same, lb, ?_⟩
      rw [upd_upd]
      simp
    · have e1 : (decide (w = y)) = false := by simp [hn]
      rw [e1, et, List.filter_append, List.filter_cons, e1]
      refine iteF ?_
      simp
  rintro _ rfl
  have et : sortN.take p6.length = sortN := by rw [pl]; rfl
  rw [et]
  refine hq D _ (s6.trans fun b o z => at_ _ z) ?_
  rw [upd_same]
end
end K01

set_option Elab.async false
set_option linter.all false
set_option maxRecDepth 100000
set_option maxHeartbeats 4000000
namespace K01
open PySem PySem.Spec PyProof.Rows L2 Rw
abbrev sWorth : Stmt := top 39
abbrev NWorth : List Str := ["word", "e"]
theorem Err.mono {c : Str → Addr} {w : Str} {v e : V} {H H' : Hp} (h : Err c w v e H) (s : Same H H') : Err c w v e H' := by
  obtain ⟨a, dd, h1, h2, h3⟩ := h
  refine ⟨a, dd, h1, s _ _ h2, ?_⟩
  rcases h3 with ⟨p, d, k1, k2, k3⟩ | k
  · exact .inl ⟨p, d, k1, k2, s _ _ k3⟩
  · exact .inr k
def spWorth (c : Str → Addr) : Sp := fun vs H Q _ => ∃ (w : Str) (v e : V), vs = [.str w, e] ∧ w ∈ names ∧ Err c w v e H ∧ ∀ H', Same H H' → (∀ p, tab.lookup w = some p → Q v H') ∧ (tab.lookup w = none → Q .non H')
/-- e.p -/
def tXf (K : PySem.W.Frag) (p : Str) (te : TE) : TE := fun σ H Q => te σ H fun v H1 => ∃ (a D d : Addr) (fs : List (Str × V)) (y : V), v = .ref a ∧ H1 a = some (xoO a D (some d)) ∧ H1 d = some (.xd fs) ∧ XcC K D ∧ PySem.W.findIn K (.ref D) p = some none ∧ fs.lookup p = some y ∧ Q y H1
section
variable {P : Program} {w : World} {K : PySem.W.Frag} {mg : Str → Option Value} {base : Heap} {c : Str → Addr}
theorem xf_read (T : Ty P K mg c) {w p : Str} {v e : V} {σ : L2.St} {H : Hp} {Q : VK} (h1 : σ[1]? = some (some e)) (he : Err c w v e H) (hp : tab.lookup w = some p) (hq : Q v H) : tXf K p (tVar 1) σ H Q := by
  obtain ⟨a, dd, rfl, g1, ⟨p', d, k1, rfl, k3⟩ | ⟨k, _⟩⟩ := he
  · rw [hp] at k1
    cases k1
    have W := T.wx (w, p) (by
      have : ∀ (l : List (Str × Str)) (w p : Str), l.lookup w = some p → (w, p) ∈ l := by
        intro l
        induction l with
        | nil => intro w p h; cases h
        | cons y t ih =>
          intro w p h
          obtain ⟨x, q⟩ := y
          rw [List.lookup_cons] at h
          by_cases hx : w = x
          · subst hx
            simp at h
            subst h
            simp
          · have e : (w == x) = false := by simpa using hx
            rw [e] at h
            exact List.mem_cons_of_mem _ (ih _ _ h)
      exact this _ _ _ hp)
    exact ⟨_, h1, a, c w, d, _, v, rfl, g1, k3, W.toXcC, W.no, by simp [List.lookup], hq⟩
  · have : ∀ w ∈ tbE, tab.lookup w = none := by decide +kernel
    rw [this w k] at hp
    cases hp
theorem worth1 (T : Ty P K mg c) {w x p : Str} {v e : V} {F : Ends} {rest : TS} {H : Hp} (hx : tab.lookup x = some p) (he : Err c w v e H) (h1 : w = x → tab.lookup w = some p → F.rt v H) (h2 : ¬ w = x → rest F [some (.str w), some e] H) :
    tSeq (tIfS (tTest (tOp rEq (tVar 0) (tC (.str x)))) (tRet (tXf K p (tVar 1))) tNext) rest F [some (.str w), some e] H := by
  refine ⟨_, rfl, rfl, _, rfl, ite2 (fun h => ?_) fun h => ?_⟩
  · rw [decide_eq_true_eq, str_eq] at h
    subst h
    exact xf_read T rfl he hx (h1 rfl hx)
  · rw [decide_eq_true_eq, str_eq] at h
    exact h2 h
def txts : List Str → TA
  | [] => tNil
  | x :: t => tCons (tC (.str x)) (txts t)
theorem strs_read {σ : L2.St} {H : Hp} : ∀ {xs : List Str} {Q : List V → Hp → Prop}, Q (xs.map V.str) H → txts xs σ H Q
  | [], _, h => h
  | x :: t, Q, h => strs_read (xs := t) (Q := fun vs H' => Q (.str x :: vs) H') h
theorem inV_strs {w : Str} : ∀ {xs : List Str}, inV (.str w) (xs.map V.str) = decide (w ∈ xs)
  | [] => rfl
  | x :: t => by
    have ih := inV_strs (w := w) (xs := t)
    show (eqV (.str x) (.str w) || inV (.str w) (t.map V.str)) = _
    rw [ih]
    show ((x == w) || decide (w ∈ t)) = _
    by_cases h : w = x
    · simp [h]
    · have h' : ¬ x = w := fun z => h z.symm
      simp [h, h']
theorem worthN (T : Ty P K mg c) {w p : Str} {v e : V} {F : Ends} {rest : TS} {H : Hp} {t : TA} (xs : List Str) (ht : t = txts xs) (hl : xs.length ≤ 1000) (hx : ∀ x ∈ xs, tab.lookup x = some p) (he : Err c w v e H) (h1 : ∀ H', Same H H' → w ∈ xs → tab.lookup w = some p → F.rt v H') (h2 : ∀ H', Same H H' → ¬ w ∈ xs → rest F [some (.str w), some e] H') :
    tSeq (tIfS (tTest (tOp (rIn K false) (tVar 0) (tTup t))) (tRet (tXf K p (tVar 1))) tNext) rest F [some (.str w), some e] H := by
  subst ht
  refine ⟨_, rfl, strs_read ⟨Nat.le_trans (by rw [List.length_map]; exact hl) (by decide), fun q hq => ?_⟩⟩
  have s1 : Same H (upd H q (.tup (xs.map V.str))) := fun b o z => by rw [upd_ne (ne_of_none z hq)]; exact z
  refine ⟨q, _, rfl, .inr (SqT.of upd_same), rfl, by simp [flatV], _, rfl, ?_⟩
  rw [inV_strs]
  refine ite2 (fun h => ?_) fun h => ?_
  · simp only [Bool.false_eq_true, if_false, decide_eq_true_eq] at h
    exact xf_read T rfl (he.mono s1) (hx w h) (h1 _ s1 h (hx w h))
  · simp only [Bool.false_eq_true, if_false, decide_eq_true_eq] at h
    exact h2 _ s1 h
theorem scWorth : FnScope NWorth ["word", "e"] (defScope sWorth) := ⟨rfl, rfl, rfl, by decide +kernel, rfl, by decide +kernel, by decide +kernel⟩
theorem last : ∀ w ∈ names, w ∉ (["BadBook", "BadDevice", "BadWard", "BadGuest", "BadOnlooker", "BadRule"] : List Str) → ¬ w = "BadText" → ¬ w = "BadChoice" → ¬ w = "TooMany" → ¬ w = "CannotCome" → w ∉ (["Refused", "NeverSure", "Uncaught", "Harmful", "Disobeyed", "Unheld", "NeverTold"] : List Str) → ¬ w = "NeverStays" →
    w ∉ (["BadName", "NameTaken", "NoWard"] : List Str) → ¬ w = "NotHeard" → ¬ w = "NotAlike" → tab.lookup w = none := by decide +kernel
theorem ok_worth {f : Addr} {fd : FuncData} (F : FunD K "_law_worth" "_law_worth" (defArgs sWorth) (defBody sWorth) (defScope sWorth) [] [] f fd) (T : Ty P K mg c) : FnOk P w K mg base CX0 1 f fd ["word", "e"] (spWorth c) := by
  refine F.ok scWorth (fun vs H Q E h => ?_) (fun cdv A outer s H vs Q E hr h => ?_)
  · obtain ⟨_, _, _, rfl, _⟩ := h
    rfl
  obtain ⟨w, v, e, rfl, hw, he, hq⟩ := h
  refine ⟨_, PSs.nox (pss_cons (ps_if (pt_cmpR op_in_seq (pv 0) (pe_tup (pa_cons pe_str (pa_cons pe_str (pa_cons pe_str (pa_cons pe_str (pa_cons pe_str (pa_cons pe_str pa_nil))))))) (by with_unfolding_all rfl)) (pss_one (ps_ret (pe_xoF (by rfl) (pv 1)))) pss_nil)
      (pss_cons (ps_if (pt_cmpR op_eq (pv 0) pe_str (nomark _)) (pss_one (ps_ret (pe_xoF (by rfl) (pv 1)))) pss_nil)
      (pss_cons (ps_if (pt_cmpR op_eq (pv 0) pe_str (nomark _)) (pss_one (ps_ret (pe_xoF (by rfl) (pv 1)))) pss_nil)
      (pss_cons (ps_if (pt_cmpR op_eq (pv 0) pe_str (nomark _)) (pss_one (ps_ret (pe_xoF (by rfl) (pv 1)))) pss_nil)
      (pss_cons (ps_if (pt_cmpR op_eq (pv 0) pe_str (nomark _)) (pss_one (ps_ret (pe_xoF (by rfl) (pv 1)))) pss_nil)
      (pss_cons (ps_if (pt_cmpR op_in_seq (pv 0) (pe_tup (pa_cons pe_str (pa_cons pe_str (pa_cons pe_str (pa_cons pe_str (pa_cons pe_str (pa_cons pe_str (pa_cons pe_str pa_nil)))))))) (by with_unfolding_all rfl)) (pss_one (ps_ret (pe_xoF (by rfl) (pv 1)))) pss_nil)
      (pss_cons (ps_if (pt_cmpR op_eq (pv 0) pe_str (nomark _)) (pss_one (ps_ret (pe_xoF (by rfl) (pv 1)))) pss_nil)
      (pss_cons (ps_if (pt_cmpR op_in_seq (pv 0) (pe_tup (pa_cons pe_str (pa_cons pe_str (pa_cons pe_str pa_nil)))) (by with_unfolding_all rfl)) (pss_one (ps_ret (pe_xoF (by rfl) (pv 1)))) pss_nil)
      (pss_cons (ps_if (pt_cmpR op_eq (pv 0) pe_str (nomark _)) (pss_one (ps_ret (pe_xoF (by rfl) (pv 1)))) pss_nil)
      (pss_cons (ps_if (pt_cmpR op_eq (pv 0) pe_str (nomark _)) (pss_one (ps_ret (pe_xoF (by rfl) (pv 1)))) pss_nil)
      (pss_one (ps_ret pe_non)))))))))))), ?_⟩
  refine worthN T ["BadBook", "BadDevice", "BadWard", "BadGuest", "BadOnlooker", "BadRule"] rfl (by decide) (by decide +kernel) he (fun H' s _ k => (hq H' s).1 _ k) fun H1 s1 n1 => ?_
  refine worth1 T (by decide +kernel) (he.mono s1) (fun _ k => (hq H1 s1).1 _ k) fun n2 => ?_
  refine worth1 T (by decide +kernel) (he.mono s1) (fun _ k => (hq H1 s1).1 _ k) fun n3 => ?_
  refine worth1 T (by decide +kernel) (he.mono s1) (fun _ k => (hq H1 s1).1 _ k) fun n4 => ?_
  refine worth1 T (by decide +kernel) (he.mono s1) (fun _ k => (hq H1 s1).1 _ k) fun n5 => ?_
  refine worthN T ["Refused", "NeverSure", "Uncaught", "Harmful", "Disobeyed", "Unheld", "NeverTold"] rfl (by decide) (by decide +kernel) (he.mono s1) (fun H' s _ k => (hq H' (s1.trans s)).1 _ k) fun H2 s2 n6 => ?_
  replace s2 := s1.trans s2
  refine worth1 T (by decide +kernel) (he.mono s2) (fun _ k => (hq H2 s2).1 _ k) fun n7 => ?_
  refine worthN T ["BadName", "NameTaken", "NoWard"] rfl (by decide) (by decide +kernel) (he.mono s2) (fun H' s _ k => (hq H' (s2.trans s)).1 _ k) fun H3 s3 n8 => ?_
  replace s3 := s2.trans s3
  refine worth1 T (by decide +kernel) (he.mono s3) (fun _ k => (hq H3 s3).1 _ k) fun n9 => ?_
  refine worth1 T (by decide +kernel) (he.mono s3) (fun _ k => (hq H3 s3).1 _ k) fun n10 => ?_
  exact (hq H3 s3).2 (last w hw n1 n2 n3 n4 n5 n6 n7 n8 n9 n10)
end
end K01

set_option Elab.async false
set_option linter.all false
set_option maxRecDepth 100000
set_option maxHeartbeats 4000000
namespace K01
open PySem PySem.Spec PyProof.Rows L2 Rw
abbrev sIsC : Stmt := top 40
abbrev NIsC : List Str := ["it", "found", "e"]
def spIsC : Sp := fun vs H Q _ => ∃ (v : V) (ok : Addr → Prop) (d : PyData), vs = [v] ∧ Dq H ok v d ∧ d.showable = true ∧ d.shown.length ≤ sizeLine ∧ d.depth ≤ 30 ∧ ∀ H', Same H H' → Q (.bl true) H'
section
variable {P : Program} {w : World} {K : PySem.W.Frag} {mg : Str → Option Value} {base : Heap} {c : Str → Addr}
theorem Ty.xf (T : Ty P K mg c) {x : Str} (h : x ∈ allN := by decide +kernel) : XfC K (c x) := ⟨(T.xc h).ga, (T.xc h).gg, (T.xc h).exC, (T.xc h).hd⟩
theorem scIsC : FnScope NIsC ["it"] (defScope sIsC) := ⟨rfl, rfl, rfl, by decide +kernel, rfl, by decide +kernel, by decide +kernel⟩
theorem ok_isC {f : Addr} {fd : FuncData} (F : FunD K "_law_is_caught" "_law_is_caught" (defArgs sIsC) (defBody sIsC) (defScope sIsC) [] [] f fd) (T : Ty P K mg c) (hsy : ∃ o, K.lookup sysModules = some o) : FnG P w K mg base CX0 1 f fd ["it"] spIsC := by
  refine FnG.to0 (sp := spIsC) (fng_body F scIsC (fun vs H Q E h => ?_) (fun cdv A outer s H vs Q E hg hr h => ?_))
  · obtain ⟨_, _, _, rfl, _⟩ := h
    rfl
  obtain ⟨v, ok, d, rfl, hd, h1, h2, h3, hq⟩ := h
  have room := show (A.deeper (envOfC "_law_is_caught" (defScope sIsC) s.heap.objs.size f cdv)).depth + 1 < recursionLimit by have := hr.dp; omega
  refine ⟨_, pss_cons (ps_set (i := 1) scIsC.nd rfl (Or.inl rfl) pe_str)
    (pss_cons (ps_try_as (i := 2) rfl rfl scIsC.nd rfl rfl ⟨rfl, rfl, .inl (T.gt "WardError")⟩ (takes_of rfl rfl rfl rfl)
      (fun W pn xe tk pa => pss_one (ps_raise rfl tk (pmk_x (T.wt "TooMany" "most") room T.super rfl (T.gt "TooMany") (pv 0))))
      (fun a oe cls d' pn hz hf => pss_one (ps_set (i := 1) scIsC.nd rfl (Or.inl rfl) (pe_ifExp (pt_val (pe_callB (call_isH2 T.wk hz hf) (by rfl) T.isin PyProof.Rows.boot_isinstance (pa_cons (pv 2) (pa_cons (pe_glob rfl (T.gt "TooMany") (rel_ref _)) pa_nil))))
        (pe_xf (C := c "TooMany") T.xf (T.wt "TooMany" "most").no hz hf (pv 2)) pe_str))))
    (pss_one (ps_ret (pe_cmpR op_eq (pe_callB (call_repr hg hr.units hsy) (by rfl) T.repr PyProof.Rows.boot_repr (pa_cons (pv 1) pa_nil)) (pe_callB (call_repr hg hr.units hsy) (by rfl) T.repr PyProof.Rows.boot_repr (pa_cons (pv 0) pa_nil)) (nomark _))))), ?_⟩
  refine ⟨_, rfl, fun dd hdd => ⟨true, T.exm, fun _ a ha => ?_, fun z => nomatch z⟩⟩
  have s1 : Same H (upd H dd (.xd [("most", v)])) := fun b o z => by rw [upd_ne (ne_of_none z hdd)]; exact z
  refine ⟨_, rfl, c "TooMany", _, _, _, rfl, T.xc (by decide +kernel), rfl, fun e he => ⟨_, by cases he; exact upd_same⟩, .own _, T.kit "TooMany" (by decide +kernel) "TooMany" (by decide +kernel), _, rfl, ?_⟩
  refine iteT ⟨_, rfl, rfl, rfl, dd, _, v, rfl, upd_same, rfl, ?_⟩
  have hd2 : Dq (upd H dd (.xd [("most", v)])) ok v d := hd.mono fun b o k z => ⟨s1 b o z, k⟩
  refine ⟨_, rfl, ok, v, d, rfl, hd2, h1, h2, h3, ?_⟩
  refine ⟨_, rfl, ok, v, d, rfl, hd2, h1, h2, h3, rfl, ?_⟩
  rw [decide_eq_true rfl]
  exact hq _ s1
end
end K01

set_option Elab.async false
set_option linter.all false
set_option maxRecDepth 100000
set_option maxHeartbeats 4000000
namespace K01
open PySem PySem.Spec PyProof.Rows L2 Rw
abbrev sValue : Stmt := top 41
abbrev NValue : List Str := ["deck", "deep", "some", "lot", "way", "k", "it"]
section
variable {P : Program} {w : World} {K : PySem.W.Frag} {mg : Str → Option Value} {base : Heap} {c : Str → Addr}
/-- draws of a value n deep -/
def cost : Nat → Int
  | 0 => 1
  | n + 1 => 4 + 3 * cost n
def bnd : Nat → Nat
  | 0 => 100
  | n + 1 => 3 * (bnd n + 100) + 100
def spV : Nat → Sp
  | 0 => fun _ _ _ _ => False
  | n + 1 => fun vs H Q _ => ∃ (D L : Addr) (m : Int), vs = [.ref D, .int n] ∧ Deck H D L m ∧ m + cost n ≤ 1000000 ∧
    ∀ v d H' m', Show (n + 1) (bnd n) d → Dq H' (fun a => H a = none) v d → Deck H' D L m' → m' ≤ m + cost n → Kp D L H H' → Q v H'
theorem Kp.trans {D L : Addr} {H H1 H2 : Hp} (a : Kp D L H H1) (b : Kp D L H1 H2) : Kp D L H H2 := fun x o z h1 h2 => b x o (a x o z h1 h2) h1 h2
theorem kp_same {D L : Addr} {H H1 : Hp} (s : Same H H1) : Kp D L H H1 := fun x o z _ _ => s x o z
theorem Deck.same {D L : Addr} {m : Int} {H H1 : Hp} (d : Deck H D L m) (s : Same H H1) : Deck H1 D L m := by
  obtain ⟨cs, a, b, h1, h2, h3⟩ := d.ex
  exact ⟨cs, a, b, s _ _ h1, s _ _ h2, h3⟩
theorem Deck.le {D L : Addr} {m n : Int} {H : Hp} (d : Deck H D L m) (h : m ≤ n) : Deck H D L n := by
  obtain ⟨cs, a, b, h1, h2, h3, h4, h5, h6, h7⟩ := d.ex
  exact ⟨cs, a, b, h1, h2, h3, h4, h5, h6, by omega⟩
theorem Deck.two {D L : Addr} {m : Int} {H : Hp} (d : Deck H D L m) : (∃ o, H D = some o) ∧ ∃ o, H L = some o := by
  obtain ⟨cs, a, b, h1, h2, h3⟩ := d.ex
  exact ⟨⟨_, h1⟩, ⟨_, h2⟩⟩
/-- what is free behind was free before -/
theorem Kp.free {D L : Addr} {m : Int} {H H1 : Hp} (k : Kp D L H H1) (d : Deck H1 D L m) {p : Addr} (h : H1 p = none) : H p = none := by
  cases e : H p with
  | none => rfl
  | some o =>
    obtain ⟨⟨o1, h1⟩, ⟨o2, h2⟩⟩ := d.two
    have := k p o e (fun z => by rw [z, h1] at h; cases h) (fun z => by rw [z, h2] at h; cases h)
    rw [this] at h
    cases h
theorem same_new {H : Hp} {p : Addr} {o : HO} (h : H p = none) : Same H (upd H p o) := fun b u z => by rw [upd_ne (ne_of_none z h)]; exact z
def baseD : List PyData := [.none, .bool true, .bool false, .int 0, .int (-1), .int 7, .int (10 ^ 39), .str "", .str "rooms", .str "a b", .str "\n", .tuple [], .list [], .dict [], .str (Txt.mul "x" 60)]
theorem base_ok : (baseD.all fun d => d.showable && decide (d.shown.length ≤ 100) && decide (d.depth ≤ 1)) = true := by kernel_rfl
theorem base_show {d : PyData} (h : d ∈ baseD) : Show 1 100 d := by
  have := List.all_eq_true.mp base_ok d h
  simp only [Bool.and_eq_true, decide_eq_true_eq] at this
  exact ⟨this.1.1, this.1.2, this.2⟩
theorem bnd_ge : ∀ n, 100 ≤ bnd n
  | 0 => Nat.le_refl _
  | n + 1 => by unfold bnd; omega
theorem cost_ge : ∀ n, 1 ≤ cost n
  | 0 => by decide
  | n + 1 => by have := cost_ge n; unfold cost; omega
def tSome : TS := tSeq (tAsg (tLst (tCons (tC V.non) (tCons (tC (V.bl true)) (tCons (tC (V.bl false)) (tCons (tC (V.int 0)) (tCons (tUn (rU fun i => V.int (-i)) (tC (V.int 1))) (tCons (tC (V.int 7))
  (tCons (tOp (rI CPow fun i j => V.int (i ^ j.toNat)) (tC (V.int 10)) (tC (V.int 39))) (tCons (tC (V.str "")) (tCons (tC (V.str "rooms")) (tCons (tC (V.str "a b")) (tCons (tC (V.str "\n")) (tCons (tTup tNil) (tCons (tLst tNil) (tCons tDNewK
  (tCons (tOp (fun x y H Q => ∃ i n, x = V.str i ∧ y = V.int n ∧ MulOk i n ∧ Q (V.str (Txt.mul i n)) H) (tC (V.str "x")) (tC (V.int 60))) tNil)))))))))))))))) (gName 2)) (tRet (tCall spPick [] E0 (tCons (tVar 0) (tCons (tVar 2) tNil))))
theorem some_read {D L : Addr} {m m0 : Int} {H H1 : Hp} {F : Ends} {σ : L2.St} (hd0 : Deck H D L m0) (hl : 2 < σ.length) (h0 : σ[0]? = some (some (.ref D))) (k1 : Kp D L H H1) (hd : Deck H1 D L m) (hm : m + 1 ≤ 1000000)
    (hq : ∀ v d H', Show 1 100 d → Dq H' (fun a => H a = none) v d → Deck H' D L (m + 1) → Kp D L H H' → F.rt v H') : tSome F σ H1 := by
  refine ⟨1, rfl, 10, 39, rfl, rfl, ⟨by decide, by decide, by decide⟩, ⟨by decide, fun p hp => ?_⟩⟩
  have f1 := k1.free hd hp
  have s1 := same_new (o := .tup []) hp
  have hd2 := hd.same s1
  have k2 := k1.trans (kp_same (D := D) (L := L) s1)
  refine ⟨by decide, fun q hq1 => ?_⟩
  have f2 := k2.free hd2 hq1
  have s2 := same_new (o := .lst []) hq1
  have hd3 := hd2.same s2
  have k3 := k2.trans (kp_same (D := D) (L := L) s2)
  intro r hr
  have f3 := k3.free hd3 hr
  have s3 := same_new (o := .dK []) hr
  have hd4 := hd3.same s3
  have k4 := k3.trans (kp_same (D := D) (L := L) s3)
  refine ⟨_, _, rfl, rfl, mulOk_of 1 60 (by decide) (by decide) (by decide) (by decide) (by decide), ?_⟩
  refine ⟨by show 15 ≤ sizeLine; decide, fun l hl1 => ?_⟩
  have f4 := k4.free hd4 hl1
  generalize eX : (upd (upd (upd H1 p (.tup [])) q (.lst [])) r (.dK [])) = H2 at hl1 hd4 k4
  have gp : H2 p = some (.tup []) := by rw [← eX]; exact s3 _ _ (s2 _ _ upd_same)
  have gq : H2 q = some (.lst []) := by rw [← eX]; exact s3 _ _ upd_same
  have gr : H2 r = some (.dK []) := by rw [← eX]; exact upd_same
  have s4 := same_new (o := .lst [.non, .bl true, .bl false, .int 0, .int (-1), .int 7, .int (10 ^ (39 : Int).toNat), .str "", .str "rooms", .str "a b", .str "\n", .ref p, .ref q, .ref r, .str (Txt.mul "x" 60)]) hl1
  have dq : DqAll H2 (fun a => H a = none) [.non, .bl true, .bl false, .int 0, .int (-1), .int 7, .int (10 ^ (39 : Int).toNat), .str "", .str "rooms", .str "a b", .str "\n", .ref p, .ref q, .ref r, .str (Txt.mul "x" 60)] baseD :=
    .cons .non (.cons (.bl _) (.cons (.bl _) (.cons (.int _) (.cons (.int _) (.cons (.int _) (.cons (.int _) (.cons (.str _) (.cons (.str _) (.cons (.str _) (.cons (.str _)
      (.cons (.tup f1 gp .nil) (.cons (.lst f2 gq .nil) (.cons (.dic f3 gr .nil .nil) (.cons (.str _) .nil))))))))))))))
  show tRet (tCall spPick [] E0 (tCons (tVar 0) (tCons (tVar 2) tNil))) F (σ.set 2 (some (.ref l))) _
  refine ⟨_, (by rw [List.getElem?_set_ne (by decide)]; exact h0), _, (by rw [List.getElem?_set_self hl]), D, L, m, l, _, rfl, hd4.same s4, by omega, upd_same, ?_, (by show 1 ≤ 15; decide), (by show 15 ≤ 1000; decide), fun i x H' hx hd' hk => ?_⟩
  · obtain ⟨_, ⟨o2, h2⟩⟩ := hd4.two
    exact fun e => by rw [e, h2] at hl1; cases hl1
  · obtain ⟨d, e1, e2⟩ := dq.at hx
    refine hq x d H' (base_show (List.mem_of_getElem? e1)) (e2.mono fun a o fa za => ⟨hk a o (s4 a o za) (fun e => ?_) (fun e => ?_), fa⟩) hd' ((k4.trans (kp_same s4)).trans hk)
    · obtain ⟨⟨o1, h1⟩, _⟩ := hd0.two
      rw [e, h1] at fa
      cases fa
    · obtain ⟨_, ⟨o1, h1⟩⟩ := hd0.two
      rw [e, h1] at fa
      cases fa
def kvs : Nat → List V → List (Key × V)
  | _, [] => []
  | i, v :: r => (.inl (i : Int), v) :: kvs (i + 1) r
theorem kvs_len : ∀ (i : Nat) (vs : List V), (kvs i vs).length = vs.length
  | _, [] => rfl
  | i, v :: r => by rw [kvs, List.length_cons, List.length_cons, kvs_len (i + 1) r]
theorem kvs_at : ∀ {vs : List V} {j i : Nat} {x : V}, vs[i]? = some x → (kvs j vs)[i]? = some (.inl ((j + i : Nat) : Int), x)
  | [], _, _, _, h => by cases h
  | v :: r, j, 0, x, h => by cases h; rfl
  | v :: r, j, i + 1, x, h => by
    have := kvs_at (j := j + 1) (i := i) (x := x) (vs := r) h
    rw [show j + 1 + i = j + (i + 1) by omega] at this
    exact this
theorem kvs_merge (vs : List V) (h : vs.length ≤ 3) : mergeK [] (kvs 0 vs) = kvs 0 vs := by
  rcases vs with _ | ⟨a, _ | ⟨b, _ | ⟨c, _ | ⟨d, r⟩⟩⟩⟩
  · rfl
  · rfl
  · rfl
  · rfl
  · simp at h
def kds : Nat → List PyData → List (PyData × PyData)
  | _, [] => []
  | i, v :: r => (.int (i : Int), v) :: kds (i + 1) r
theorem kds_len : ∀ (i : Nat) (vs : List PyData), (kds i vs).length = vs.length
  | _, [] => rfl
  | i, v :: r => by rw [kds, List.length_cons, List.length_cons, kds_len (i + 1) r]
theorem kds_mem : ∀ {ds : List PyData} {i : Nat} {p : PyData × PyData}, p ∈ kds i ds → (∃ j : Nat, p.1 = .int j ∧ i ≤ j ∧ j < i + ds.length) ∧ p.2 ∈ ds
  | [], _, _, h => by cases h
  | d :: r, i, p, h => by
    rcases List.mem_cons.mp h with e | e
    · rw [e]; exact ⟨⟨i, rfl, Nat.le_refl _, by simp⟩, by simp⟩
    · obtain ⟨⟨j, h1, h2, h3⟩, h4⟩ := kds_mem e
      exact ⟨⟨j, h1, by omega, by simp; omega⟩, by simp [h4]⟩
theorem kds_dq {H : Hp} {ok : Addr → Prop} : ∀ {vs : List V} {ds : List PyData} (i : Nat), DqAll H ok vs ds → DqAll H ok ((kvs i vs).map fun p => kV p.1) ((kds i ds).map (·.1)) ∧ DqAll H ok ((kvs i vs).map (·.2)) ((kds i ds).map (·.2))
  | _, _, _, .nil => ⟨.nil, .nil⟩
  | _, _, i, .cons h t => ⟨.cons (.int _) (kds_dq (i + 1) t).1, .cons h (kds_dq (i + 1) t).2⟩
theorem int_show : ([.int 0, .int 1, .int 2] : List PyData).all (fun d => d.showable && decide (d.shown.length ≤ 1) && decide (d.depth ≤ 0)) = true := by kernel_rfl
theorem cb1 {r : List V → Hp → VK → Prop} {t : TE} {σ : L2.St} {H : Hp} {Q : VK} (h : t σ H fun y H1 => r [y] H1 Q) : tCB r (tCons t tNil) σ H Q := h
theorem yes_read {σ : L2.St} {H : Hp} {Q : Bool → Hp → Prop} (h : Q true H) : tYes σ H Q := h
theorem pairs_read {K : PySem.W.Frag} {σ : L2.St} {H : Hp} {a : Addr} {xs : List V} {Q : VK} (hl : σ.length = 7) (h3 : σ[3]? = some (some (.ref a))) (ha : H a = some (.lst xs)) (hx : xs.length ≤ 3)
    (hq : ∀ l ps H', Same H H' → H' l = some (.lst (ps.map V.ref)) → Paired (fun p kv => H' p = some (.tup [kV kv.1, kv.2])) ps (kvs 0 xs) → Q (.ref l) H') :
    tLc (iEnum K (tCons (tVar 3) tNil)) (gTup K 2 (gCons (gName 5) (gCons (gName 6) gNil))) tYes (tTup (tCons (tVar 5) (tCons (tVar 6) tNil))) (List.map (fun x => x.2) [(("k" : Str), 5), (("it" : Str), 6)]) σ H Q := by
  refine ⟨_, h3, a, xs, rfl, SqL.of ha, fun D hD => ?_⟩
  refine lc_it (walk_enum (K := K) (a := a) (xs := xs)) (fun i H' => ∃ ps : List Addr, H' D = some (.lst (ps.map V.ref)) ∧ ps.length = i ∧ Paired (fun p kv => H' p = some (.tup [kV kv.1, kv.2])) ps ((kvs 0 xs).take i) ∧ Same H H') ⟨[], upd_same, rfl, .nil, same_new hD⟩ ?_ ?_ ?_
  · rintro i H' _ ⟨ps, h1, h2, h4, h5⟩
    exact SqL.of (h5 _ _ ha)
  · rintro i x H1 H2 hi ⟨ps, h1, h2, h4, h5⟩ ⟨T, k, v, rfl, hT, rfl, hk, hv⟩
    cases hk
    have s1 := same_new (o := .tup [.int (i : Nat), v]) hT
    obtain ⟨w0, w1, w2, w3, w4, w5, w6, rfl⟩ : ∃ w0 w1 w2 w3 w4 w5 w6, σ = [w0, w1, w2, w3, w4, w5, w6] := by
      match σ, hl with
      | [w0, w1, w2, w3, w4, w5, w6], _ => exact ⟨_, _, _, _, _, _, _, rfl⟩
    refine ⟨T, _, rfl, SqT.of upd_same, rfl, _, _, rfl, _, _, rfl, rfl, rfl, yes_read ?_⟩
    refine iteT ?_
    refine ⟨_, rfl, _, rfl, by show 2 ≤ sizeLine; decide, fun p hp => ?_⟩
    have s2 := same_new (o := .tup [.int (i : Nat), v]) hp
    have g := s2 _ _ (s1 _ _ h1)
    refine ⟨_, g, Nat.lt_of_le_of_lt (by rw [List.length_map, h2]; omega : _ ≤ 3) (by decide), ps ++ [p], by rw [upd_same, List.map_append]; rfl, by simp [h2], ?_, fun b o z => ?_⟩
    · have et : (kvs 0 xs).take (i + 1) = (kvs 0 xs).take i ++ [(.inl (i : Int), v)] := by rw [List.take_add_one, kvs_at hv, Nat.zero_add]; rfl
      have nD : ∀ {b : Addr} {xs : List V}, H1 b = some (.tup xs) → b ≠ D := fun z e => by rw [e, h1] at z; cases z
      rw [et]
      refine p_app (L2.Paired.mapP h4 fun b kv z => ?_) (.cons ?_ .nil)
      · rw [upd_ne (nD z)]
        exact s2 _ _ (s1 _ _ z)
      · have : p ≠ D := fun e => by rw [e, s1 _ _ h1] at hp; cases hp
        rw [upd_ne this, upd_same]
        rfl
    · have n : b ≠ D := ne_of_none z hD
      rw [upd_ne n]
      exact s2 _ _ (s1 _ _ (h5 _ _ z))
  · rintro H' ⟨ps, h1, h2, h4, h5⟩
    rw [show (kvs 0 xs).take xs.length = kvs 0 xs by rw [← kvs_len 0 xs, List.take_length]] at h4
    exact hq D ps H' h5 h1 h4
theorem scValue : FnScope NValue ["deck", "deep"] (defScope sValue) := ⟨rfl, rfl, rfl, by decide +kernel, rfl, by decide +kernel, by decide +kernel⟩
theorem ok_value {f : Addr} {fd : FuncData} (F : FunD K "_law_value" "_law_value" (defArgs sValue) (defBody sValue) (defScope sValue) [] [] f fd) (T : Ty P K mg c)
    (mV : mg "_law_value" = some (.ref f))
    {fD fP : Addr} {fdD fdP : FuncData} (FD : FunD K "_law_draw" "_law_draw" (defArgs sDraw) (defBody sDraw) (defScope sDraw) [] [] fD fdD) (mD : mg "_law_draw" = some (.ref fD))
    (FP : FunD K "_law_pick" "_law_pick" (defArgs sPick) (defBody sPick) (defScope sPick) [] [] fP fdP) (mP : mg "_law_pick" = some (.ref fP)) : ∀ n, FnOk P w K mg base CX0 (n + 2) f fd ["deck", "deep"] (spV n)
  | 0 => ⟨fun _ _ _ _ h => h.elim, fun _ _ _ _ _ _ _ _ _ _ _ _ _ h => h.elim⟩
  | n + 1 => by
    have FV := F
    have GV := ok_value F T mV FD mD FP mP n
    have GD : FnOk P w K mg base CX0 1 fD fdD ["deck", "below"] spDraw := ok_draw FD T.toTxt
    have GP : FnOk P w K mg base CX0 2 fP fdP ["deck", "some"] spPick := ok_pick FP T.toTxt FD mD
    have bD : Binds K fdD ["deck", "below"] [] := FD.bindsN fun _ _ _ _ _ _ us hl => match us, hl with | [_, _], _ => rfl
    have bP : Binds K fdP ["deck", "some"] [] := FP.bindsN fun _ _ _ _ _ _ us hl => match us, hl with | [_, _], _ => rfl
    have bV : Binds K fd ["deck", "deep"] [] := F.bindsN fun _ _ _ _ _ _ us hl => match us, hl with | [_, _], _ => rfl
    refine F.ok scValue (fun vs H Q E h => ?_) (fun cdv A outer s H vs Q E hr h => ?_)
    · obtain ⟨_, _, _, rfl, _⟩ := h
      rfl
    obtain ⟨D, L, m, rfl, hd, hm, hq⟩ := h
    refine ⟨_, PSs.nox (pss_cons (ps_if (PW.pt (pw_or (pt_cmpR op_eq (pv 1) pe_int (nomark _)) (pw_or1 (pt_cmpR op_eq (pe_call GD (hr.mono (by omega)) rfl mD FD.kp bD .nil pass0 (pa_cons (pv 0) (pa_cons pe_int pa_nil))) pe_int (nomark _))))) (pss_cons (ps_set (i := 2) scValue.nd rfl (Or.inl rfl) (pe_lst (pa_cons pe_non (pa_cons pe_bl (pa_cons pe_bl (pa_cons pe_int (pa_cons (pe_un un_neg pe_int) (pa_cons pe_int (pa_cons (pe_op op_pow pe_int pe_int) (pa_cons pe_str (pa_cons pe_str (pa_cons pe_str (pa_cons pe_str (pa_cons (pe_tup pa_nil) (pa_cons (pe_lst pa_nil) (pa_cons pe_dnewK (pa_cons (pe_op op_mul_str pe_str pe_int) pa_nil)))))))))))))))))
      (pss_one (ps_ret (pe_call GP (hr.mono (by omega)) rfl mP FP.kp bP .nil pass0 (pa_cons (pv 0) (pa_cons (pv 2) pa_nil)))))) pss_nil)
      (pss_cons (ps_setLc (i := 3) (own := [("k", 5)]) rfl scValue.nd rfl rfl (sw_true rfl rfl rfl (by decide +kernel)) (pi_range1 (by rfl) T.range (pa_cons (pe_call GD (hr.mono (by omega)) rfl mD FD.kp bD .nil pass0 (pa_cons (pv 0) (pa_cons pe_int pa_nil))) pa_nil)) (blkOk_by (N := NValue) (sc := defScope sValue) (by decide +kernel)) (fun _ _ _ _ _ => (pg_name (i := 5) scValue.nd rfl (Or.inl rfl))) (fun _ _ _ _ _ => pts_nil) (fun _ _ _ _ _ => (pe_call GV (hr.mono (by omega)) rfl mV FV.kp bV .nil pass0 (pa_cons (pv 0) (pa_cons (pe_op op_sub (pv 1) pe_int) pa_nil)))))
      (pss_cons (ps_set (i := 4) scValue.nd rfl (Or.inl rfl) (pe_call GD (hr.mono (by omega)) rfl mD FD.kp bD .nil pass0 (pa_cons (pv 0) (pa_cons pe_int pa_nil))))
      (pss_one (ps_ret (pe_ifExp (pt_cmpR op_eq (pv 4) pe_int (nomark _)) (pe_callTy call_tuple_of (by rfl) T.tuple (by decide +kernel) (pa_cons (pv 3) pa_nil)) (pe_ifExp (pt_cmpR op_eq (pv 4) pe_int (nomark _)) (pv 3) (pe_callTy (call_dictP rfl) (by rfl) T.dict (by decide +kernel) (pa_cons (pe_lc (own := [("k", 5), ("it", 6)]) rfl scValue.nd (pi_enum (by rfl) T.enum (pa_cons (pv 3) pa_nil)) (blkOk_by (N := NValue) (sc := defScope sValue) (by decide +kernel)) (fun _ _ _ _ _ => (pg_tupK (K := K) (n := 2) rfl (by rfl) (pgs_cons (pg_name (i := 5) scValue.nd rfl (Or.inl rfl)) (pgs_cons (pg_name (i := 6) scValue.nd rfl (Or.inl rfl)) pgs_nil)))) (fun _ _ _ _ _ => pts_nil) (fun _ _ _ _ _ => (pe_tup (pa_cons (pv 5) (pa_cons (pv 6) pa_nil))))) pa_nil))))))))), ?_⟩
    have cg := cost_ge n
    have so : ∀ H1 m1, Kp D L H H1 → Deck H1 D L m1 → m1 + 1 ≤ m + cost n → ∀ F : Ends, F.rt = Q → tSome F (start NValue [.ref D, .int (n : Int)]) H1 := fun H1 m1 k1 d1 le F hF =>
      some_read hd (by show 2 < 7; decide) rfl k1 d1 (by omega) fun v d H' sh dq hd' kp => hF ▸ hq v d H' _ (sh.mono (by omega) (bnd_ge n)) dq hd' le kp
    refine ⟨_, rfl, rfl, _, rfl, ite2 (fun z => iteT (so H m (kp_same (Same.refl _)) hd (by omega) _ rfl)) fun z => ?_⟩
    obtain ⟨k, rfl⟩ : ∃ k, n = k + 1 := by
      cases n with
      | zero => exact absurd (decide_eq_true rfl) z
      | succ k => exact ⟨k, rfl⟩
    have ec : cost (k + 1) = 4 + 3 * cost k := rfl
    have cgk := cost_ge k
    refine ⟨_, rfl, D, L, m, 2, rfl, hd, by omega, by decide, by decide, fun r1 H1 r10 r11 hd1 kp1 => ⟨rfl, _, rfl, ite2 (fun z1 => so H1 _ kp1 hd1 (by omega) _ rfl) fun z1 => ?_⟩⟩
    refine ⟨_, rfl, D, L, m + 1, 4, rfl, hd1, by omega, by decide, by decide, fun r2 H2 r20 r21 hd2 kp2 => ⟨r2, rfl, by omega, by omega, fun Dl hDl => ?_⟩⟩
    have kpH2 := kp1.trans kp2
    have fDl := kpH2.free hd2 hDl
    obtain ⟨⟨oD, hHD⟩, ⟨oL, hHL⟩⟩ := hd.two
    have nD : Dl ≠ D := fun e => by rw [e, hHD] at fDl; cases fDl
    have nL : Dl ≠ L := fun e => by rw [e, hHL] at fDl; cases fDl
    have le3 : ∀ i : Nat, i ≤ 3 → (i : Int) * cost k ≤ 3 * cost k := fun i hi => Int.mul_le_mul_of_nonneg_right (by omega) (by omega)
    refine lc_range (fun i H' => ∃ (vs : List V) (ds : List PyData) (m' : Int), H' Dl = some (.lst vs) ∧ vs.length = i ∧ DqAll H' (fun a => H a = none ∧ a ≠ Dl) vs ds ∧ (∀ d ∈ ds, Show (k + 1) (bnd k) d) ∧ Deck H' D L m' ∧ m' ≤ m + 2 + i * cost k ∧ Kp D L H H') ?_ ?_ ?_
    · exact ⟨[], [], m + 2, upd_same, rfl, .nil, (fun _ h => by cases h), (hd2.le (by omega)).same (same_new hDl), by simp, kpH2.trans (kp_same (same_new hDl))⟩
    · rintro i H3 hi ⟨vs, ds, m', g1, g2, g3, g4, g5, g6, g7⟩
      have hi3 : i + 1 ≤ 3 := by omega
      have l3 := le3 (i + 1) hi3
      have e3 : ((i + 1 : Nat) : Int) * cost k = i * cost k + cost k := by rw [Int.natCast_add, Int.add_mul]; simp
      refine ⟨rfl, yes_read ?_⟩
      refine iteT ⟨_, rfl, _, rfl, _, _, rfl, rfl, D, L, m', ?_, g5, by omega, fun v d H4 m4 sh dq hd4 l4 kp4 => ?_⟩
      · show [V.ref D, V.int (((k + 1 : Nat) : Int) - 1)] = [V.ref D, V.int (k : Int)]
        rw [show ((k + 1 : Nat) : Int) - 1 = (k : Int) by omega]
      · have gD : H4 Dl = some (.lst vs) := kp4 _ _ g1 nD nL
        have kpD : Kp D L H3 (upd H4 Dl (.lst (vs ++ [v]))) ∨ True := .inr trivial
        refine ⟨vs, gD, small1000 (by omega), vs ++ [v], ds ++ [d], m4, upd_same, by simp [g2], ?_, ?_, ?_, by omega, ?_⟩
        · refine DqAll.append (g3.mono fun a o ha za => ⟨?_, ha⟩) (.cons (dq.mono fun a o ha za => ?_) .nil)
          · rw [upd_ne ha.2]
            exact kp4 a o za (fun e => by have q := ha.1; rw [e, hHD] at q; cases q) (fun e => by have q := ha.1; rw [e, hHL] at q; cases q)
          · have n : a ≠ Dl := fun e => by rw [e, g1] at ha; cases ha
            exact ⟨by rw [upd_ne n]; exact za, g7.free g5 ha, n⟩
        · intro x hx
          rcases List.mem_append.mp hx with h | h
          · exact g4 x h
          · rw [List.mem_singleton.mp h]; exact sh
        · obtain ⟨cs, a, b, h1, h2, h3⟩ := hd4.ex
          exact ⟨cs, a, b, by rw [upd_ne nD.symm]; exact h1, by rw [upd_ne nL.symm]; exact h2, h3⟩
        · intro a o za h1 h2
          have n : a ≠ Dl := ne_of_none za fDl
          rw [upd_ne n]
          exact kp4 a o (g7 a o za h1 h2) h1 h2
    · rintro H3 ⟨vs, ds, m', g1, g2, g3, g4, g5, g6, g7⟩
      have l3 := le3 r2.toNat (by omega)
      refine ⟨_, rfl, D, L, m', 3, rfl, g5, by omega, by decide, by decide, fun r4 H4 r40 r41 hd4 kp4 => ?_⟩
      have gD : H4 Dl = some (.lst vs) := kp4 _ _ g1 nD nL
      have dq4 : DqAll H4 (fun a => H a = none) vs ds := g3.mono fun a o ha za => ⟨kp4 a o za (fun e => by have q := ha.1; rw [e, hHD] at q; cases q) (fun e => by have q := ha.1; rw [e, hHL] at q; cases q), ha.1⟩
      have kpH4 := g7.trans kp4
      have lv : vs.length ≤ 3 := by omega
      have ld : ds.length ≤ 3 := by rw [← g3.len]; exact lv
      have eb : bnd (k + 1) = 3 * (bnd k + 100) + 100 := rfl
      have lm : ∀ x, ds.length * x ≤ 3 * x := fun x => Nat.mul_le_mul_right x ld
      refine ⟨_, rfl, rfl, _, rfl, ite2 (fun z4 => ?_) fun z4 => ⟨_, rfl, rfl, _, rfl, ite2 (fun z5 => ?_) fun z5 => ?_⟩⟩
      · refine ⟨_, rfl, Dl, vs, rfl, .inl ⟨SqL.of gD, fun l hl => ?_⟩⟩
        refine hq (.ref l) (.tuple ds) _ _ ((Show.tuple g4).mono (by omega) (by have := lm (bnd k + 2); omega)) (.tup (kpH4.free hd4 hl) upd_same (dq4.mono fun a o ha za => ⟨same_new hl a o za, ha⟩)) (hd4.same (same_new hl)) (by omega) (kpH4.trans (kp_same (same_new hl)))
      · exact ⟨_, rfl, hq (.ref Dl) (.list ds) _ _ ((Show.list g4).mono (by omega) (by have := lm (bnd k + 2); omega)) (.lst fDl gD dq4) hd4 (by omega) kpH4⟩
      · refine cb1 ?_
        refine pairs_read (σ := [some (.ref D), some (.int ((k + 1 : Nat) : Int)), none, some (.ref Dl), some (.int r4), none, none]) rfl rfl gD lv fun l ps H5 s5 g5' pr => ?_
        refine ⟨l, ps, kvs 0 vs, rfl, SqL.of g5', L2.Paired.mapP pr fun p kv q => SqT.of q, fun p hp => ?_⟩
        rw [kvs_merge vs lv]
        have hd5 := hd4.same s5
        have kp5 := kpH4.trans (kp_same (D := D) (L := L) s5)
        have ds5 := kds_dq 0 (dq4.mono (H' := upd H5 p (.dK (kvs 0 vs))) (ok' := fun a => H a = none) fun a o ha za => ⟨same_new hp a o (s5 a o za), ha⟩)
        refine hq (.ref p) (.dict (kds 0 ds)) _ _ ((Show.dict (n := k + 1) (B := bnd k) (C := 1) fun x hx => ?_).mono (by omega) (by rw [kds_len]; have := lm (1 + 2 + bnd k + 2); omega)) (.dic (kp5.free hd5 hp) upd_same ds5.1 ds5.2) (hd5.same (same_new hp)) (by omega) (kp5.trans (kp_same (same_new hp)))
        obtain ⟨⟨j, h1, h2, h3⟩, h4⟩ := kds_mem hx
        refine ⟨?_, g4 _ h4⟩
        have all := List.all_eq_true.mp int_show x.1 (by
          rw [h1]
          have : j = 0 ∨ j = 1 ∨ j = 2 := by omega
          rcases this with rfl | rfl | rfl <;> simp)
        simp only [Bool.and_eq_true, decide_eq_true_eq] at all
        exact ⟨all.1.1, all.1.2, Nat.le_trans all.2 (Nat.zero_le _)⟩
end
end K01

set_option Elab.async false
set_option linter.all false
set_option maxRecDepth 100000
set_option maxHeartbeats 4000000
namespace K01
open PySem PySem.Spec PyProof.Rows L2 Rw
abbrev sLaw : Stmt := top 43
abbrev NLaw : List Str := ["script", "deck", "words", "word", "it", "was", "is_named", "e", "plain"]
def spLaw (K : PySem.W.Frag) : Sp := fun vs H Q _ => ∃ (a : Addr) (ns : List Int), vs = [.ref a] ∧ SqL K H a (ns.map V.int) ∧ ∀ H', Q (.bl true) H'
section
variable {P : Program} {w : World} {K : PySem.W.Frag} {mg : Str → Option Value} {base : Heap} {c : Str → Addr}
theorem sort_one : ∀ w ∈ names, (sortN.filter fun x => decide (w = x)) = [w] := by decide +kernel
theorem sort_none : (sortN.filter fun x => decide (("WardError" : Str) = x)) = [] := by decide +kernel
theorem in23 : ∀ w ∈ names, decide (w ∈ names.take 23) = (tab.lookup w).isSome := by decide +kernel
theorem boot_Val : bootBuiltins "ValueError" = some (.type "ValueError") := by decide +kernel
theorem sh1 : ∀ w ∈ names, SeqAt.shaped (.list [.str w]) = true := by decide +kernel
theorem cut23 : cutV (names.map V.str) none (some 23) = (names.take 23).map V.str := rfl
theorem flat23 : ((names.take 23).map V.str).all flatV = true := rfl
theorem sh0 : SeqAt.shaped (.list []) = true := by decide +kernel
theorem eq1 (w : Str) : PyData.eqv (.list [.str w]) (.list [.str w]) = true := by simp [PyData.eqv, PyData.eqvAll]
theorem eq0 : PyData.eqv (.list []) (.list []) = true := by decide +kernel
theorem Err.exc {c : Str → Addr} {w : Str} {v e : V} {H : Hp} (h : Err c w v e H) : ∃ a dd, e = .ref a ∧ Exc a (c w) dd H := by
  obtain ⟨a, dd, h1, h2, ⟨p, d, k1, k2, k3⟩ | ⟨_, k⟩⟩ := h
  · refine ⟨a, dd, h1, h2, fun d' e => ⟨[(p, v)], ?_⟩⟩
    rw [k2] at e
    cases e
    exact k3
  · refine ⟨a, dd, h1, h2, fun d' e => ?_⟩
    rw [k] at e
    cases e
theorem scLaw : FnScope NLaw ["script"] (defScope sLaw) := ⟨rfl, rfl, rfl, by decide +kernel, rfl, by decide +kernel, by decide +kernel⟩
theorem ok_law {f0 : Addr} {g0 : FuncData} (F : FunD K "law" "law" (defArgs sLaw) (defBody sLaw) (defScope sLaw) [] [] f0 g0) (T_ : Ty P K mg c) (hsy : ∃ o, K.lookup sysModules = some o)
    {fK : Addr} {fdK : FuncData} (FK : FunD K "_law_deck" "_law_deck" (defArgs sDeck) (defBody sDeck) (defScope sDeck) [] [] fK fdK) (mK : mg "_law_deck" = some (.ref fK))
    {fD : Addr} {fdD : FuncData} (FD : FunD K "_law_draw" "_law_draw" (defArgs sDraw) (defBody sDraw) (defScope sDraw) [] [] fD fdD) (mD : mg "_law_draw" = some (.ref fD))
    {fP : Addr} {fdP : FuncData} (FP : FunD K "_law_pick" "_law_pick" (defArgs sPick) (defBody sPick) (defScope sPick) [] [] fP fdP) (mP : mg "_law_pick" = some (.ref fP))
    {fa : Addr} {fda : FuncData} (Fa : FunD K "_law_made_a" "_law_made_a" (defArgs sMa) (defBody sMa) (defScope sMa) [] [] fa fda) (ma : mg "_law_made_a" = some (.ref fa))
    {fb : Addr} {fdb : FuncData} (Fb : FunD K "_law_made_b" "_law_made_b" (defArgs sMb) (defBody sMb) (defScope sMb) [] [] fb fdb) (mb : mg "_law_made_b" = some (.ref fb))
    {fc : Addr} {fdc : FuncData} (Fc : FunD K "_law_made_c" "_law_made_c" (defArgs sMc) (defBody sMc) (defScope sMc) [] [] fc fdc) (mc : mg "_law_made_c" = some (.ref fc))
    {fd : Addr} {fdd : FuncData} (Fd : FunD K "_law_made_d" "_law_made_d" (defArgs sMd) (defBody sMd) (defScope sMd) [] [] fd fdd) (md : mg "_law_made_d" = some (.ref fd))
    {fe : Addr} {fde : FuncData} (Fe : FunD K "_law_made_bare" "_law_made_bare" (defArgs sMbare) (defBody sMbare) (defScope sMbare) [] [] fe fde) (me : mg "_law_made_bare" = some (.ref fe))
    {fM : Addr} {fdM : FuncData} (FM : FunD K "_law_made" "_law_made" (defArgs sMade) (defBody sMade) (defScope sMade) [] [] fM fdM) (mM : mg "_law_made" = some (.ref fM))
    {fS : Addr} {fdS : FuncData} (FS : FunD K "_law_sorts" "_law_sorts" (defArgs sSorts) (defBody sSorts) (defScope sSorts) [] [] fS fdS) (mS : mg "_law_sorts" = some (.ref fS))
    {fW : Addr} {fdW : FuncData} (FW : FunD K "_law_worth" "_law_worth" (defArgs sWorth) (defBody sWorth) (defScope sWorth) [] [] fW fdW) (mW : mg "_law_worth" = some (.ref fW))
    {fC : Addr} {fdC : FuncData} (FC : FunD K "_law_is_caught" "_law_is_caught" (defArgs sIsC) (defBody sIsC) (defScope sIsC) [] [] fC fdC) (mC : mg "_law_is_caught" = some (.ref fC))
    {fV : Addr} {fdV : FuncData} (FV : FunD K "_law_value" "_law_value" (defArgs sValue) (defBody sValue) (defScope sValue) [] [] fV fdV) (mV : mg "_law_value" = some (.ref fV))
    : FnG P w K mg base CX0 7 f0 g0 ["script"] (spLaw K) := by
  have GK : FnOk P w K mg base CX0 1 fK fdK ["script"] (spDeck K) := ok_deck FK T_.toTxt
  have bK : Binds K fdK ["script"] [] := FK.bindsN fun _ _ _ _ _ _ us hl => match us, hl with | [_], _ => rfl
  have GM : FnOk P w K mg base CX0 2 fM fdM ["word", "it", "is_named"] (spMadeAll c) := ok_made FM T_ Fa ma Fb mb Fc mc Fd md Fe me
  have bM : Binds K fdM ["word", "it", "is_named"] [] := FM.bindsN fun _ _ _ _ _ _ us hl => match us, hl with | [_, _, _], _ => rfl
  have GS : FnOk P w K mg base CX0 1 fS fdS ["e"] (spSorts c) := ok_sorts FS T_
  have bS : Binds K fdS ["e"] [] := FS.bindsN fun _ _ _ _ _ _ us hl => match us, hl with | [_], _ => rfl
  have GW : FnOk P w K mg base CX0 1 fW fdW ["word", "e"] (spWorth c) := ok_worth FW T_
  have bW : Binds K fdW ["word", "e"] [] := FW.bindsN fun _ _ _ _ _ _ us hl => match us, hl with | [_, _], _ => rfl
  have GC : FnG P w K mg base CX0 1 fC fdC ["it"] (spIsC) := ok_isC FC T_ hsy
  have bC : Binds K fdC ["it"] [] := FC.bindsN fun _ _ _ _ _ _ us hl => match us, hl with | [_], _ => rfl
  have GV : FnOk P w K mg base CX0 6 fV fdV ["deck", "deep"] (spV 4) := ok_value FV T_ mV FD mD FP mP 4
  have bV : Binds K fdV ["deck", "deep"] [] := FV.bindsN fun _ _ _ _ _ _ us hl => match us, hl with | [_, _], _ => rfl
  refine fn_okG F scLaw (fun vs H Q E h => ?_) (fun cdv A outer s H vs Q E hg hr h => ?_)
  · obtain ⟨_, _, rfl, _⟩ := h
    rfl
  obtain ⟨a, ns, rfl, hS, hq⟩ := h
  have T := T_
  refine ⟨_, (pss_cons (ps_set (i := 1) scLaw.nd rfl (Or.inl rfl) (pe_call GK (hr.mono (by omega)) rfl mK FK.kp bK .nil pass0 (pa_cons (pv 0) pa_nil)))
      (pss_cons (ps_set (i := 2) scLaw.nd rfl (Or.inl rfl) (pe_lst (pa_cons pe_str (pa_cons pe_str (pa_cons pe_str (pa_cons pe_str (pa_cons pe_str (pa_cons pe_str (pa_cons pe_str (pa_cons pe_str pa_nil))))))))))
      (pss_cons (ps_set (i := 2) scLaw.nd rfl (Or.inl rfl) (pe_op op_cat (pv 2) (pe_lst (pa_cons pe_str (pa_cons pe_str (pa_cons pe_str (pa_cons pe_str (pa_cons pe_str (pa_cons pe_str (pa_cons pe_str (pa_cons pe_str pa_nil)))))))))))
      (pss_cons (ps_set (i := 2) scLaw.nd rfl (Or.inl rfl) (pe_op op_cat (pv 2) (pe_lst (pa_cons pe_str (pa_cons pe_str (pa_cons pe_str (pa_cons pe_str (pa_cons pe_str (pa_cons pe_str (pa_cons pe_str pa_nil))))))))))
      (pss_cons (ps_set (i := 2) scLaw.nd rfl (Or.inl rfl) (pe_op op_cat (pv 2) (pe_lst (pa_cons pe_str (pa_cons pe_str (pa_cons pe_str (pa_cons pe_str pa_nil)))))))
      (pss_cons (ps_for PassesOwn.never rfl (pi_list (pv 2)) (pg_name (i := 3) scLaw.nd rfl (Or.inl rfl))
        (pss_cons (ps_set (i := 4) scLaw.nd rfl (Or.inl rfl) (pe_call GV (hr.mono (by omega)) rfl mV FV.kp bV .nil pass0 (pa_cons (pv 1) (pa_cons pe_int pa_nil))))
      (pss_cons (ps_set (i := 5) scLaw.nd rfl (Or.inl rfl) (pe_callB (call_repr hg hr.units hsy) (by rfl) T.repr PyProof.Rows.boot_repr (pa_cons (pv 4) pa_nil)))
      (pss_one (ps_for PassesOwn.never rfl (pi_tup (pe_tup (pa_cons pe_bl (pa_cons pe_bl pa_nil)))) (pg_name (i := 6) scLaw.nd rfl (Or.inl rfl))
        (pss_cons (ps_set (i := 7) scLaw.nd rfl (Or.inl rfl) (pe_call GM (hr.mono (by omega)) rfl mM FM.kp bM .nil pass0 (pa_cons (pv 3) (pa_cons (pv 4) (pa_cons (pv 6) pa_nil)))))
      (pss_cons (ps_if (PW.pt (pw_or (pt_cmpR (op_neD hr.units) (pe_call GS (hr.mono (by omega)) rfl mS FS.kp bS .nil pass0 (pa_cons (pv 7) pa_nil)) (pe_lst (pa_cons (pv 3) pa_nil)) (nomark _)) (pw_or (pt_not (pt_val (pe_callB (call_isX T.wk) (by rfl) T.isin PyProof.Rows.boot_isinstance (pa_cons (pv 7) (pa_cons (pe_glob rfl (T.gt "WardError") (rel_ref _)) pa_nil))))) (pw_or1 (pt_not (pt_val (pe_callG GC hg (hr.mono (by decide)) rfl mC FC.kp bC .nil pass0 (pa_cons (pv 4) pa_nil)))))))) (pss_one (ps_ret pe_bl)) pss_nil)
      (pss_one (ps_if (PW.pt (pw_or (pt_cmpR op_ne (pe_callB (call_repr hg hr.units hsy) (by rfl) T.repr PyProof.Rows.boot_repr (pa_cons (pe_call GW (hr.mono (by omega)) rfl mW FW.kp bW .nil pass0 (pa_cons (pv 3) (pa_cons (pv 7) pa_nil))) pa_nil)) (pe_ifExp (pt_cmpR op_in_seq (pv 3) (pe_slice sl_list (pv 2) po_none (po_some pe_int)) (by with_unfolding_all rfl)) (pv 5) (pe_callB (call_repr hg hr.units hsy) (by rfl) T.repr PyProof.Rows.boot_repr (pa_cons pe_non pa_nil))) (nomark _)) (pw_or1 (pt_cmpR op_ne (pe_callB (call_repr hg hr.units hsy) (by rfl) T.repr PyProof.Rows.boot_repr (pa_cons (pv 4) pa_nil)) (pv 5) (nomark _))))) (pss_one (ps_ret pe_bl)) pss_nil)))))))))
      (pss_cons (ps_set (i := 8) scLaw.nd rfl (Or.inl rfl) (pe_mkN (T.nt "WardError") rfl (T.gt "WardError")))
      (pss_one (ps_ret (pe_and (pe_cmpR (op_eqD hr.units) (pe_call GS (hr.mono (by omega)) rfl mS FS.kp bS .nil pass0 (pa_cons (pv 8) pa_nil)) (pe_lst pa_nil) (nomark _)) (pe_and (pe_callB (call_isX T.wk) (by rfl) T.isin PyProof.Rows.boot_isinstance (pa_cons (pv 8) (pa_cons (pe_bltn rfl T.exc boot_Exc (show RelV (.ty "Exception") _ from rfl)) pa_nil))) (pe_one (pe_not (pe_callB (call_isX T.wk) (by rfl) T.isin PyProof.Rows.boot_isinstance (pa_cons (pv 8) (pa_cons (pe_bltn rfl T.val boot_Val (show RelV (.ty "ValueError") _ from rfl)) pa_nil)))))))))))))))), ?_⟩
  clear FK FD FP Fa Fb Fc Fd Fe FM FS FW FC FV GK GM GS GW GC GV bK bM bS bW bC bV mK mD mP ma mb mc md me mM mS mW mC mV F T
  refine ⟨_, rfl, a, ns, rfl, hS, fun D L H1 hd1 s1 fD fL nDL => ?_⟩
  refine ⟨by show 8 ≤ sizeLine; decide, fun l1 f1 => ?_⟩
  generalize e2 : upd H1 l1 _ = H2
  have s2 : Same H1 H2 := e2 ▸ same_new f1
  have g1 : H2 l1 = some (.lst ((names.take 8).map V.str)) := by rw [← e2, upd_same]; rfl
  refine ⟨_, rfl, by show 8 ≤ sizeLine; decide, fun l2 f2 => ?_⟩
  generalize e3 : upd H2 l2 _ = H3
  have s3 : Same H2 H3 := e3 ▸ same_new f2
  have g2 : H3 l2 = some (.lst (((names.drop 8).take 8).map V.str)) := by rw [← e3, upd_same]; rfl
  refine ⟨l1, l2, _, _, rfl, rfl, s3 _ _ g1, g2, by decide, fun l3 f3 => ?_⟩
  generalize e4 : upd H3 l3 _ = H4
  have s4 : Same H3 H4 := e4 ▸ same_new f3
  have g3 : H4 l3 = some (.lst ((names.take 16).map V.str)) := by rw [← e4, upd_same]; rfl
  refine ⟨_, rfl, by show 7 ≤ sizeLine; decide, fun l4 f4 => ?_⟩
  generalize e5 : upd H4 l4 _ = H5
  have s5 : Same H4 H5 := e5 ▸ same_new f4
  have g4 : H5 l4 = some (.lst (((names.drop 16).take 7).map V.str)) := by rw [← e5, upd_same]; rfl
  refine ⟨l3, l4, _, _, rfl, rfl, s5 _ _ g3, g4, by decide, fun l5 f5 => ?_⟩
  generalize e6 : upd H5 l5 _ = H6
  have s6 : Same H5 H6 := e6 ▸ same_new f5
  have g5 : H6 l5 = some (.lst ((names.take 23).map V.str)) := by rw [← e6, upd_same]; rfl
  refine ⟨_, rfl, by show 4 ≤ sizeLine; decide, fun l6 f6 => ?_⟩
  generalize e7 : upd H6 l6 _ = H7
  have s7 : Same H6 H7 := e7 ▸ same_new f6
  have g6 : H7 l6 = some (.lst ((names.drop 23).map V.str)) := by rw [← e7, upd_same]; rfl
  refine ⟨l5, l6, _, _, rfl, rfl, s7 _ _ g5, g6, by decide, fun lw f7 => ?_⟩
  generalize e8 : upd H7 lw _ = H8
  have s8 : Same H7 H8 := e8 ▸ same_new f7
  have g7 : H8 lw = some (.lst (names.map V.str)) := by rw [← e8, upd_same]; rfl
  have s17 : Same H1 H7 := s2.trans (s3.trans (s4.trans (s5.trans (s6.trans s7))))
  have hd7 := hd1.same s17
  have hd8 := hd7.same s8
  obtain ⟨⟨oD, hD7⟩, ⟨oL, hL7⟩⟩ := hd7.two
  have nwD : lw ≠ D := fun e => by rw [e, hD7] at f7; cases f7
  have nwL : lw ≠ L := fun e => by rw [e, hL7] at f7; cases f7
  have nl : names.length = 27 := rfl
  refine ⟨_, rfl, lw, rfl, ⟨_, SqL.of g7⟩, for_list (xs := names.map V.str) (fun i σ' H' => ∃ (m : Int) (c3 c4 c5 c6 c7 : Option V), σ' = [some (.ref a), some (.ref D), some (.ref lw), c3, c4, c5, c6, c7, none] ∧ Deck H' D L m ∧ m ≤ i * 79 ∧ H' lw = some (.lst (names.map V.str))) ?_ ?_ ?_ ?_⟩
  · exact ⟨0, none, none, none, none, none, rfl, hd8, by simp, g7⟩
  · rintro i _ H' _ ⟨m, c3, c4, c5, c6, c7, rfl, h1, h2, h3⟩
    exact SqL.of h3
  · rintro i x _ J0 hx ⟨m, c3, c4, c5, c6, c7, rfl, h1, h2, h3⟩
    have hi : i < 27 := by
      obtain ⟨z, _⟩ := List.getElem?_eq_some_iff.mp hx
      rw [List.length_map, nl] at z
      exact z
    obtain ⟨w, hw, rfl⟩ := List.mem_map.mp (List.mem_of_getElem? hx)
    have hwa : w ∈ allN := List.mem_cons_of_mem _ hw
    refine ⟨_, rfl, D, L, m, rfl, h1, by show m + 79 ≤ 1000000; omega, fun v d J1 m2 sh dq hdk le2 kp => ?_⟩
    replace le2 : m2 ≤ m + 79 := le2
    have b1 : bnd 3 ≤ sizeLine := by decide
    have lnS := Nat.le_trans sh.len b1
    have dp30 : d.depth ≤ 30 := Nat.le_trans sh.deep (by decide)
    have gw1 := kp _ _ h3 nwD nwL
    refine ⟨_, rfl, _, v, d, rfl, dq, sh.ok, lnS, dp30, ?_⟩
    refine ⟨by show 2 ≤ sizeLine; decide, fun T fT => ?_⟩
    generalize eJ : upd J1 T _ = J2
    have sJ : Same J1 J2 := eJ ▸ same_new fT
    have gT : J2 T = some (.tup [.bl false, .bl true]) := by rw [← eJ, upd_same]
    have dq2 := dq.mono (H' := J2) (ok' := fun a => J0 a = none) fun a o k z => ⟨sJ a o z, k⟩
    refine ⟨T, rfl, ⟨_, SqT.of gT⟩, for_tup (xs := [.bl false, .bl true]) (fun j σ' H' => ∃ (c6 c7 : Option V), σ' = [some (.ref a), some (.ref D), some (.ref lw), some (.str w), some v, some (.str d.shown), c6, c7, none] ∧ Same J2 H') ?_ ?_ ?_ ?_⟩
    · exact ⟨_, _, rfl, Same.refl _⟩
    · rintro j _ H' _ ⟨c6, c7, rfl, k1⟩
      exact SqT.of (k1 _ _ gT)
    · rintro j x _ M0 hx ⟨c6, c7, rfl, k1⟩
      obtain ⟨b, rfl⟩ : ∃ b, x = V.bl b := by
        have := List.mem_of_getElem? hx
        simp only [List.mem_cons, List.not_mem_nil, or_false] at this
        rcases this with h | h
        · exact ⟨_, h⟩
        · exact ⟨_, h⟩
      refine ⟨_, rfl, _, rfl, _, rfl, w, v, b, rfl, hw, fun e M1 t1 he => ?_⟩
      obtain ⟨ae, dd, rfl, hx⟩ := he.exc
      refine ⟨_, rfl, ae, w, dd, rfl, hwa, hx, fun l M2 t2 g2 => ?_⟩
      rw [sort_one w hw] at g2
      refine ⟨_, rfl, by show 1 ≤ sizeLine; decide, fun q fq => ?_⟩
      have t3 := same_new (o := .lst [.str w]) fq
      refine ⟨.list [.str w], .list [.str w], .lst (SqL.of (t3 _ _ g2)) (.cons (.str w) .nil), .lst (SqL.of upd_same) (.cons (.str w) .nil), sh1 w hw, sh1 w hw, _, rfl, ?_⟩
      rw [eq1]
      refine iteF ?_
      have hx3 := (hx.mono t2).mono t3
      refine ⟨_, rfl, ae, c w, dd, _, _, _, rfl, hx3.1, hx3.2, T_.xc hwa, .own _, T_.kitW w hw, _, rfl, ?_⟩
      refine iteF ?_
      have t13 := (t1.trans t2).trans t3
      have dq3 := dq2.mono (H' := upd M2 q (.lst [.str w])) (ok' := fun a => J0 a = none) fun a o k z => ⟨t13 a o (k1 a o z), k⟩
      refine ⟨_, rfl, v, _, d, rfl, dq3, sh.ok, lnS, dp30, fun M3 t4 => ⟨_, rfl, ?_⟩⟩
      refine iteF ?_
      have t23 := (t2.trans t3).trans t4
      have t03 := (k1.trans t13).trans t4
      refine ⟨_, rfl, _, rfl, w, v, .ref ae, rfl, hw, he.mono t23, fun M4 t5 => ⟨fun p hp => ?_, fun hn => ?_⟩⟩
      · have dq4 := dq2.mono (H' := M4) (ok' := fun a => J0 a = none) fun a o k z => ⟨t5 a o (t03 a o z), k⟩
        refine ⟨_, v, d, rfl, dq4, sh.ok, lnS, dp30, ?_⟩
        have gw4 := t5 _ _ (t03 _ _ (sJ _ _ gw1))
        refine ⟨_, rfl, _, rfl, _, rfl, lw, _, rfl, SqL.of gw4, fun r fr => ?_⟩
        rw [cut23]
        refine ⟨r, _, rfl, .inl (SqL.of upd_same), rfl, flat23, _, rfl, ?_⟩
        have iv : (if false = true then !inV (.str w) ((names.take 23).map V.str) else inV (.str w) ((names.take 23).map V.str)) = true := by
          rw [if_neg Bool.false_ne_true, inV_strs, in23 w hw, hp]
          rfl
        rw [iv]
        refine iteT ⟨_, rfl, rfl, _, rfl, ?_⟩
        rw [decide_eq_true rfl]
        refine iteF ?_
        have t6 := same_new (o := .lst ((names.take 23).map V.str)) fr
        have dq5 := dq4.mono (H' := upd M4 r (.lst ((names.take 23).map V.str))) (ok' := fun a => J0 a = none) fun a o k z => ⟨t6 a o z, k⟩
        refine ⟨_, rfl, _, v, d, rfl, dq5, sh.ok, lnS, dp30, _, rfl, rfl, _, rfl, ?_⟩
        rw [decide_eq_true rfl]
        exact iteF ⟨_, _, rfl, (t03.trans t5).trans t6⟩
      · have dq4 := dq2.mono (H' := M4) (ok' := fun a => J0 a = none) fun a o k z => ⟨t5 a o (t03 a o z), k⟩
        refine ⟨fun _ => True, .non, .none, rfl, .non, rfl, (by decide +kernel), (by decide), ?_⟩
        have gw4 := t5 _ _ (t03 _ _ (sJ _ _ gw1))
        refine ⟨_, rfl, _, rfl, _, rfl, lw, _, rfl, SqL.of gw4, fun r fr => ?_⟩
        rw [cut23]
        refine ⟨r, _, rfl, .inl (SqL.of upd_same), rfl, flat23, _, rfl, ?_⟩
        have iv : (if false = true then !inV (.str w) ((names.take 23).map V.str) else inV (.str w) ((names.take 23).map V.str)) = false := by
          rw [if_neg Bool.false_ne_true, inV_strs, in23 w hw, hn]
          rfl
        rw [iv]
        refine iteF ⟨fun _ => True, .non, .none, rfl, .non, rfl, (by decide +kernel), (by decide), rfl, _, rfl, ?_⟩
        rw [decide_eq_true rfl]
        refine iteF ?_
        have t6 := same_new (o := .lst ((names.take 23).map V.str)) fr
        have dq5 := dq4.mono (H' := upd M4 r (.lst ((names.take 23).map V.str))) (ok' := fun a => J0 a = none) fun a o k z => ⟨t6 a o z, k⟩
        refine ⟨_, rfl, _, v, d, rfl, dq5, sh.ok, lnS, dp30, _, rfl, rfl, _, rfl, ?_⟩
        rw [decide_eq_true rfl]
        exact iteF ⟨_, _, rfl, (t03.trans t5).trans t6⟩
    · rintro _ H' ⟨c6, c7, rfl, k1⟩
      exact ⟨m2, _, _, _, _, _, rfl, (hdk.same sJ).same k1, by omega, k1 _ _ (sJ _ _ gw1)⟩
  · rintro _ H' ⟨m, c3, c4, c5, c6, c7, rfl, h1, h2, h3⟩
    intro ap fap
    have xp : Exc ap (c "WardError") none (upd H' ap (xoO ap (c "WardError") none)) := ⟨upd_same, fun _ z => nomatch z⟩
    have mW : (("WardError" : Str)) ∈ allN := List.mem_cons_self
    refine ⟨_, rfl, ap, "WardError", none, rfl, mW, xp, fun l M2 t2 g2 => ?_⟩
    rw [sort_none] at g2
    refine ⟨by show 0 ≤ sizeLine; decide, fun q fq => ?_⟩
    have t3 := same_new (o := .lst []) fq
    refine ⟨.list [], .list [], .lst (SqL.of (t3 _ _ g2)) .nil, .lst (SqL.of upd_same) .nil, sh0, sh0, ?_⟩
    rw [eq0]
    refine ⟨_, rfl, iteT ?_⟩
    have xp3 := (xp.mono t2).mono t3
    refine ⟨_, rfl, ap, c "WardError", none, _, _, _, rfl, xp3.1, xp3.2, T_.xc mW, .ty _, T_.kitE, _, rfl, iteT ?_⟩
    refine ⟨_, rfl, ap, c "WardError", none, _, _, _, rfl, xp3.1, xp3.2, T_.xc mW, .ty _, T_.kitV, _, rfl, ?_⟩
    exact hq _
end
end K01

set_option Elab.async false
set_option linter.all false
set_option maxRecDepth 100000
set_option maxHeartbeats 0
namespace K01
open PySem PySem.Spec PyProof.Rows L2 Rw
/-! the head: facts by names -/
abbrev Row1 : PySem.W.OpenLaw := PySem.Challenge.rw_rulewardens_k01_whole_errors_and_four_mo
abbrev Rr : PySem.W.OpenRow := PySem.W.OpenLaw.row Row1
def clsInit (s : Stmt) : Stmt := match s with
  | .ClassDef _ _ _ body _ _ _ _ _ _ _ => body.getD 0 (.Pass ⟨0, 0, 0, 0⟩)
  | _ => s
def d__law_deck : He.DefD := ⟨("_law_deck", none), "_law_deck", "_law_deck", defArgs (top 30), defBody (top 30), defScope (top 30), [], []⟩
def d__law_draw : He.DefD := ⟨("_law_draw", none), "_law_draw", "_law_draw", defArgs (top 31), defBody (top 31), defScope (top 31), [], []⟩
def d__law_pick : He.DefD := ⟨("_law_pick", none), "_law_pick", "_law_pick", defArgs (top 32), defBody (top 32), defScope (top 32), [], []⟩
def d__law_made_a : He.DefD := ⟨("_law_made_a", none), "_law_made_a", "_law_made_a", defArgs (top 33), defBody (top 33), defScope (top 33), [], []⟩
def d__law_made_b : He.DefD := ⟨("_law_made_b", none), "_law_made_b", "_law_made_b", defArgs (top 34), defBody (top 34), defScope (top 34), [], []⟩
def d__law_made_c : He.DefD := ⟨("_law_made_c", none), "_law_made_c", "_law_made_c", defArgs (top 35), defBody (top 35), defScope (top 35), [], []⟩
def d__law_made_d : He.DefD := ⟨("_law_made_d", none), "_law_made_d", "_law_made_d", defArgs (top 36), defBody (top 36), defScope (top 36), [], []⟩
def d__law_made_bare : He.DefD := ⟨("_law_made_bare", none), "_law_made_bare", "_law_made_bare", defArgs (top 37), defBody (top 37), defScope (top 37), [], []⟩
def d__law_sorts : He.DefD := ⟨("_law_sorts", none), "_law_sorts", "_law_sorts", defArgs (top 38), defBody (top 38), defScope (top 38), [], []⟩
def d__law_worth : He.DefD := ⟨("_law_worth", none), "_law_worth", "_law_worth", defArgs (top 39), defBody (top 39), defScope (top 39), [], []⟩
def d__law_is_caught : He.DefD := ⟨("_law_is_caught", none), "_law_is_caught", "_law_is_caught", defArgs (top 40), defBody (top 40), defScope (top 40), [], []⟩
def d__law_value : He.DefD := ⟨("_law_value", none), "_law_value", "_law_value", defArgs (top 41), defBody (top 41), defScope (top 41), [], []⟩
def d__law_made : He.DefD := ⟨("_law_made", none), "_law_made", "_law_made", defArgs (top 42), defBody (top 42), defScope (top 42), [], []⟩
def d_law : He.DefD := ⟨("law", none), "law", "law", defArgs (top 43), defBody (top 43), defScope (top 43), [], []⟩
def fn : List He.DefD := [d__law_deck, d__law_draw, d__law_pick, d__law_made_a, d__law_made_b, d__law_made_c, d__law_made_d, d__law_made_bare, d__law_sorts, d__law_worth, d__law_is_caught, d__law_value, d__law_made, d_law]
def xi0 : List XI := [⟨"BadBook", "part", "BadBook.__init__", clsInit (top 2)⟩, ⟨"BadDevice", "part", "BadDevice.__init__", clsInit (top 3)⟩, ⟨"BadWard", "part", "BadWard.__init__", clsInit (top 4)⟩, ⟨"BadText", "line", "BadText.__init__", clsInit (top 5)⟩, ⟨"BadChoice", "choice", "BadChoice.__init__", clsInit (top 6)⟩, ⟨"TooMany", "most", "TooMany.__init__", clsInit (top 7)⟩, ⟨"Refused", "paper", "Refused.__init__", clsInit (top 8)⟩, ⟨"CannotCome", "place", "CannotCome.__init__", clsInit (top 9)⟩, ⟨"NeverSure", "paper", "NeverSure.__init__", clsInit (top 10)⟩, ⟨"NeverStays", "number", "NeverStays.__init__", clsInit (top 11)⟩, ⟨"BadOnlooker", "part", "BadOnlooker.__init__", clsInit (top 12)⟩, ⟨"BadGuest", "part", "BadGuest.__init__", clsInit (top 13)⟩]
def xi1 : List XI := [⟨"Uncaught", "paper", "Uncaught.__init__", clsInit (top 15)⟩, ⟨"BadName", "name", "BadName.__init__", clsInit (top 16)⟩, ⟨"NameTaken", "name", "NameTaken.__init__", clsInit (top 17)⟩, ⟨"NoWard", "name", "NoWard.__init__", clsInit (top 18)⟩, ⟨"NotHeard", "heard", "NotHeard.__init__", clsInit (top 19)⟩, ⟨"NotAlike", "log", "NotAlike.__init__", clsInit (top 20)⟩, ⟨"Harmful", "paper", "Harmful.__init__", clsInit (top 21)⟩, ⟨"BadRule", "part", "BadRule.__init__", clsInit (top 25)⟩, ⟨"Disobeyed", "paper", "Disobeyed.__init__", clsInit (top 26)⟩, ⟨"Unheld", "paper", "Unheld.__init__", clsInit (top 27)⟩, ⟨"NeverTold", "paper", "NeverTold.__init__", clsInit (top 28)⟩]
def xi : List XI := xi0 ++ xi1
def gl0 : List Str := ["WardError", "BadBook", "BadDevice", "BadWard", "BadText", "BadChoice", "TooMany", "Refused", "CannotCome", "NeverSure", "NeverStays", "BadOnlooker", "BadGuest", "OtherFaces", "Uncaught", "BadName", "NameTaken", "NoWard", "NotHeard", "NotAlike"]
def gl1 : List Str := ["Harmful", "NothingToUndo", "NothingToRedo", "InvalidCommand", "BadRule", "Disobeyed", "Unheld", "NeverTold", "_law_deck", "_law_draw", "_law_pick", "_law_made_a", "_law_made_b", "_law_made_c", "_law_made_d", "_law_made_bare", "_law_sorts", "_law_worth", "_law_is_caught", "_law_value"]
def gl2 : List Str := ["_law_made", "law"]
def gl : List Str := gl0 ++ gl1 ++ gl2
def fr : List Str := ["int", "len", "list", "super", "range", "repr", "isinstance", "tuple", "dict", "enumerate", "Exception", "ValueError"]
def fa : List He.Fa := gl.map He.Fa.glo ++ fr.map He.Fa.free
def kitB (K : PySem.W.Frag) (x y : Str) : Bool := decide (PySem.W.kitOne K (.ref (He.ga K x)) (.ref (He.ga K y)) = some (decide (x = y)))
def ex (K : PySem.W.Frag) : Bool := wkB K && ((xi.all fun d => xiB Row1.prog K d.cls d.par d.qual) && ((bareN.all fun x => wnB K (He.ga K x)) && ((allN.all fun x => names.all fun y => kitB K x y) && ((names.all fun x => decide (PySem.W.kitOne K (.ref (He.ga K x)) (.ref (He.ga K "WardError")) = some true)) &&
  (decide (PySem.W.kitOne K (.ref (He.ga K "WardError")) (.type "Exception") = some true) && (decide (PySem.W.kitOne K (.ref (He.ga K "WardError")) (.type "ValueError") = some false) && (decide (PySem.W.exmOne K (.ref (He.ga K "TooMany")) (.ref (He.ga K "WardError")) = some true) && (K.lookup sysModules).isSome)))))))
abbrev hk : PySem.W.Hook := hookX 5 fa fn xi ex
def ob (s : PySem.W.SharedT) : AlX := obX 5 fa fn xi ex s
theorem ob_eq (s : PySem.W.SharedT) : ob s = hk.obs s.abs := obX_eq 5 fa fn xi ex s
def lo0 : List Str := ["WardError", "BadBook", "BadDevice", "BadWard", "BadText", "BadChoice", "TooMany", "Refused", "CannotCome", "NeverSure", "NeverStays", "BadOnlooker", "BadGuest", "OtherFaces", "Uncaught", "BadName", "NameTaken", "NoWard", "NotHeard", "NotAlike"]
def lo1 : List Str := ["Harmful", "NothingToUndo", "NothingToRedo", "InvalidCommand", "BadRule", "Disobeyed", "Unheld", "NeverTold", "_law_deck", "_law_draw", "_law_pick", "_law_made_a", "_law_made_b", "_law_made_c", "_law_made_d", "_law_made_bare", "_law_sorts", "_law_worth", "_law_is_caught", "_law_value"]
def lo2 : List Str := ["_law_made"]
def lo : List Str := lo0 ++ lo1 ++ lo2
theorem run (w : World) : HandSHeadRun.RunEq Rr (PySem.W.view Rr.prog [43]) hk ob 16000 lo w := by
  intro os
  kernel_rfl
theorem xt_BadBook : XiT "part" (clsInit (top 2)) := ⟨_, _, _, _, _, _, _, _, _, _, _, _, _, rfl, rfl, rfl, ⟨by decide, rfl, rfl, rfl, rfl⟩, rfl, fun _ _ _ _ _ _ _ _ _ _ => ⟨rfl, rfl⟩⟩
theorem xt_BadDevice : XiT "part" (clsInit (top 3)) := ⟨_, _, _, _, _, _, _, _, _, _, _, _, _, rfl, rfl, rfl, ⟨by decide, rfl, rfl, rfl, rfl⟩, rfl, fun _ _ _ _ _ _ _ _ _ _ => ⟨rfl, rfl⟩⟩
theorem xt_BadWard : XiT "part" (clsInit (top 4)) := ⟨_, _, _, _, _, _, _, _, _, _, _, _, _, rfl, rfl, rfl, ⟨by decide, rfl, rfl, rfl, rfl⟩, rfl, fun _ _ _ _ _ _ _ _ _ _ => ⟨rfl, rfl⟩⟩
theorem xt_BadText : XiT "line" (clsInit (top 5)) := ⟨_, _, _, _, _, _, _, _, _, _, _, _, _, rfl, rfl, rfl, ⟨by decide, rfl, rfl, rfl, rfl⟩, rfl, fun _ _ _ _ _ _ _ _ _ _ => ⟨rfl, rfl⟩⟩
theorem xt_BadChoice : XiT "choice" (clsInit (top 6)) := ⟨_, _, _, _, _, _, _, _, _, _, _, _, _, rfl, rfl, rfl, ⟨by decide, rfl, rfl, rfl, rfl⟩, rfl, fun _ _ _ _ _ _ _ _ _ _ => ⟨rfl, rfl⟩⟩
theorem xt_TooMany : XiT "most" (clsInit (top 7)) := ⟨_, _, _, _, _, _, _, _, _, _, _, _, _, rfl, rfl, rfl, ⟨by decide, rfl, rfl, rfl, rfl⟩, rfl, fun _ _ _ _ _ _ _ _ _ _ => ⟨rfl, rfl⟩⟩
theorem xt_Refused : XiT "paper" (clsInit (top 8)) := ⟨_, _, _, _, _, _, _, _, _, _, _, _, _, rfl, rfl, rfl, ⟨by decide, rfl, rfl, rfl, rfl⟩, rfl, fun _ _ _ _ _ _ _ _ _ _ => ⟨rfl, rfl⟩⟩
theorem xt_CannotCome : XiT "place" (clsInit (top 9)) := ⟨_, _, _, _, _, _, _, _, _, _, _, _, _, rfl, rfl, rfl, ⟨by decide, rfl, rfl, rfl, rfl⟩, rfl, fun _ _ _ _ _ _ _ _ _ _ => ⟨rfl, rfl⟩⟩
theorem xt_NeverSure : XiT "paper" (clsInit (top 10)) := ⟨_, _, _, _, _, _, _, _, _, _, _, _, _, rfl, rfl, rfl, ⟨by decide, rfl, rfl, rfl, rfl⟩, rfl, fun _ _ _ _ _ _ _ _ _ _ => ⟨rfl, rfl⟩⟩
theorem xt_NeverStays : XiT "number" (clsInit (top 11)) := ⟨_, _, _, _, _, _, _, _, _, _, _, _, _, rfl, rfl, rfl, ⟨by decide, rfl, rfl, rfl, rfl⟩, rfl, fun _ _ _ _ _ _ _ _ _ _ => ⟨rfl, rfl⟩⟩
theorem xt_BadOnlooker : XiT "part" (clsInit (top 12)) := ⟨_, _, _, _, _, _, _, _, _, _, _, _, _, rfl, rfl, rfl, ⟨by decide, rfl, rfl, rfl, rfl⟩, rfl, fun _ _ _ _ _ _ _ _ _ _ => ⟨rfl, rfl⟩⟩
theorem xt_BadGuest : XiT "part" (clsInit (top 13)) := ⟨_, _, _, _, _, _, _, _, _, _, _, _, _, rfl, rfl, rfl, ⟨by decide, rfl, rfl, rfl, rfl⟩, rfl, fun _ _ _ _ _ _ _ _ _ _ => ⟨rfl, rfl⟩⟩
theorem xt_Uncaught : XiT "paper" (clsInit (top 15)) := ⟨_, _, _, _, _, _, _, _, _, _, _, _, _, rfl, rfl, rfl, ⟨by decide, rfl, rfl, rfl, rfl⟩, rfl, fun _ _ _ _ _ _ _ _ _ _ => ⟨rfl, rfl⟩⟩
theorem xt_BadName : XiT "name" (clsInit (top 16)) := ⟨_, _, _, _, _, _, _, _, _, _, _, _, _, rfl, rfl, rfl, ⟨by decide, rfl, rfl, rfl, rfl⟩, rfl, fun _ _ _ _ _ _ _ _ _ _ => ⟨rfl, rfl⟩⟩
theorem xt_NameTaken : XiT "name" (clsInit (top 17)) := ⟨_, _, _, _, _, _, _, _, _, _, _, _, _, rfl, rfl, rfl, ⟨by decide, rfl, rfl, rfl, rfl⟩, rfl, fun _ _ _ _ _ _ _ _ _ _ => ⟨rfl, rfl⟩⟩
theorem xt_NoWard : XiT "name" (clsInit (top 18)) := ⟨_, _, _, _, _, _, _, _, _, _, _, _, _, rfl, rfl, rfl, ⟨by decide, rfl, rfl, rfl, rfl⟩, rfl, fun _ _ _ _ _ _ _ _ _ _ => ⟨rfl, rfl⟩⟩
theorem xt_NotHeard : XiT "heard" (clsInit (top 19)) := ⟨_, _, _, _, _, _, _, _, _, _, _, _, _, rfl, rfl, rfl, ⟨by decide, rfl, rfl, rfl, rfl⟩, rfl, fun _ _ _ _ _ _ _ _ _ _ => ⟨rfl, rfl⟩⟩
theorem xt_NotAlike : XiT "log" (clsInit (top 20)) := ⟨_, _, _, _, _, _, _, _, _, _, _, _, _, rfl, rfl, rfl, ⟨by decide, rfl, rfl, rfl, rfl⟩, rfl, fun _ _ _ _ _ _ _ _ _ _ => ⟨rfl, rfl⟩⟩
theorem xt_Harmful : XiT "paper" (clsInit (top 21)) := ⟨_, _, _, _, _, _, _, _, _, _, _, _, _, rfl, rfl, rfl, ⟨by decide, rfl, rfl, rfl, rfl⟩, rfl, fun _ _ _ _ _ _ _ _ _ _ => ⟨rfl, rfl⟩⟩
theorem xt_BadRule : XiT "part" (clsInit (top 25)) := ⟨_, _, _, _, _, _, _, _, _, _, _, _, _, rfl, rfl, rfl, ⟨by decide, rfl, rfl, rfl, rfl⟩, rfl, fun _ _ _ _ _ _ _ _ _ _ => ⟨rfl, rfl⟩⟩
theorem xt_Disobeyed : XiT "paper" (clsInit (top 26)) := ⟨_, _, _, _, _, _, _, _, _, _, _, _, _, rfl, rfl, rfl, ⟨by decide, rfl, rfl, rfl, rfl⟩, rfl, fun _ _ _ _ _ _ _ _ _ _ => ⟨rfl, rfl⟩⟩
theorem xt_Unheld : XiT "paper" (clsInit (top 27)) := ⟨_, _, _, _, _, _, _, _, _, _, _, _, _, rfl, rfl, rfl, ⟨by decide, rfl, rfl, rfl, rfl⟩, rfl, fun _ _ _ _ _ _ _ _ _ _ => ⟨rfl, rfl⟩⟩
theorem xt_NeverTold : XiT "paper" (clsInit (top 28)) := ⟨_, _, _, _, _, _, _, _, _, _, _, _, _, rfl, rfl, rfl, ⟨by decide, rfl, rfl, rfl, rfl⟩, rfl, fun _ _ _ _ _ _ _ _ _ _ => ⟨rfl, rfl⟩⟩
theorem ty_of {K : PySem.W.Frag} {h : Heap} {mg : Str → Option Value} (X : K.In h) (G : h.Ns mainGlobals mg) (c : SaysX fa fn xi ex K) : Ty Row1.prog K mg (He.ga K) ∧ ∃ o, K.lookup sysModules = some o := by
  have m := c.more
  unfold ex at m
  simp only [Bool.and_eq_true, decide_eq_true_eq] at m
  obtain ⟨m1, m2, m3, m4, m5, m6, m7, m8, m9⟩ := m
  have ff : ∀ f ∈ fa, f.ok K = true := fun f hf => by
    obtain ⟨i, hi⟩ := List.getElem?_of_mem hf
    exact c.base.fact i hi
  have fg : ∀ x ∈ gl, mg x = some (.ref (He.ga K x)) := fun x hx => He.glo_ok X G (ff _ (List.mem_append.mpr (.inl (List.mem_map.mpr ⟨x, hx, rfl⟩))))
  have fr_ : ∀ x ∈ fr, mg x = none := fun x hx => He.free_ok X G (ff _ (List.mem_append.mpr (.inr (List.mem_map.mpr ⟨x, hx, rfl⟩))))
  have xb : ∀ d ∈ xi, xiB Row1.prog K d.cls d.par d.qual = true := fun d hd => List.all_eq_true.mp m2 d hd
  have wx : ∀ y ∈ tab, WxC Row1.prog K (He.ga K y.1) y.2 := by
    intro y hy
    have h : y ∈ ([("BadBook", "part"), ("BadDevice", "part"), ("BadWard", "part"), ("BadGuest", "part"), ("BadOnlooker", "part"), ("BadText", "line"), ("BadChoice", "choice"), ("TooMany", "most"), ("CannotCome", "place"), ("Refused", "paper"), ("NeverSure", "paper"), ("NeverStays", "number"), ("Uncaught", "paper"), ("BadName", "name"), ("NameTaken", "name"), ("NoWard", "name"), ("NotHeard", "heard"), ("NotAlike", "log"), ("Harmful", "paper"), ("BadRule", "part"), ("Disobeyed", "paper"), ("Unheld", "paper"), ("NeverTold", "paper")] : List (Str × Str)) := hy
    simp only [List.mem_cons, List.not_mem_nil, or_false] at h
    rcases h with rfl | rfl | rfl | rfl | rfl | rfl | rfl | rfl | rfl | rfl | rfl | rfl | rfl | rfl | rfl | rfl | rfl | rfl | rfl | rfl | rfl | rfl | rfl
    · exact wx_of xt_BadBook (c.init 0 (d := ⟨"BadBook", "part", "BadBook.__init__", clsInit (top 2)⟩)) (xb ⟨"BadBook", "part", "BadBook.__init__", clsInit (top 2)⟩ (List.mem_of_getElem? (i := 0) rfl)) (by decide) (by decide)
    · exact wx_of xt_BadDevice (c.init 1 (d := ⟨"BadDevice", "part", "BadDevice.__init__", clsInit (top 3)⟩)) (xb ⟨"BadDevice", "part", "BadDevice.__init__", clsInit (top 3)⟩ (List.mem_of_getElem? (i := 1) rfl)) (by decide) (by decide)
    · exact wx_of xt_BadWard (c.init 2 (d := ⟨"BadWard", "part", "BadWard.__init__", clsInit (top 4)⟩)) (xb ⟨"BadWard", "part", "BadWard.__init__", clsInit (top 4)⟩ (List.mem_of_getElem? (i := 2) rfl)) (by decide) (by decide)
    · exact wx_of xt_BadGuest (c.init 11 (d := ⟨"BadGuest", "part", "BadGuest.__init__", clsInit (top 13)⟩)) (xb ⟨"BadGuest", "part", "BadGuest.__init__", clsInit (top 13)⟩ (List.mem_of_getElem? (i := 11) rfl)) (by decide) (by decide)
    · exact wx_of xt_BadOnlooker (c.init 10 (d := ⟨"BadOnlooker", "part", "BadOnlooker.__init__", clsInit (top 12)⟩)) (xb ⟨"BadOnlooker", "part", "BadOnlooker.__init__", clsInit (top 12)⟩ (List.mem_of_getElem? (i := 10) rfl)) (by decide) (by decide)
    · exact wx_of xt_BadText (c.init 3 (d := ⟨"BadText", "line", "BadText.__init__", clsInit (top 5)⟩)) (xb ⟨"BadText", "line", "BadText.__init__", clsInit (top 5)⟩ (List.mem_of_getElem? (i := 3) rfl)) (by decide) (by decide)
    · exact wx_of xt_BadChoice (c.init 4 (d := ⟨"BadChoice", "choice", "BadChoice.__init__", clsInit (top 6)⟩)) (xb ⟨"BadChoice", "choice", "BadChoice.__init__", clsInit (top 6)⟩ (List.mem_of_getElem? (i := 4) rfl)) (by decide) (by decide)
    · exact wx_of xt_TooMany (c.init 5 (d := ⟨"TooMany", "most", "TooMany.__init__", clsInit (top 7)⟩)) (xb ⟨"TooMany", "most", "TooMany.__init__", clsInit (top 7)⟩ (List.mem_of_getElem? (i := 5) rfl)) (by decide) (by decide)
    · exact wx_of xt_CannotCome (c.init 7 (d := ⟨"CannotCome", "place", "CannotCome.__init__", clsInit (top 9)⟩)) (xb ⟨"CannotCome", "place", "CannotCome.__init__", clsInit (top 9)⟩ (List.mem_of_getElem? (i := 7) rfl)) (by decide) (by decide)
    · exact wx_of xt_Refused (c.init 6 (d := ⟨"Refused", "paper", "Refused.__init__", clsInit (top 8)⟩)) (xb ⟨"Refused", "paper", "Refused.__init__", clsInit (top 8)⟩ (List.mem_of_getElem? (i := 6) rfl)) (by decide) (by decide)
    · exact wx_of xt_NeverSure (c.init 8 (d := ⟨"NeverSure", "paper", "NeverSure.__init__", clsInit (top 10)⟩)) (xb ⟨"NeverSure", "paper", "NeverSure.__init__", clsInit (top 10)⟩ (List.mem_of_getElem? (i := 8) rfl)) (by decide) (by decide)
    · exact wx_of xt_NeverStays (c.init 9 (d := ⟨"NeverStays", "number", "NeverStays.__init__", clsInit (top 11)⟩)) (xb ⟨"NeverStays", "number", "NeverStays.__init__", clsInit (top 11)⟩ (List.mem_of_getElem? (i := 9) rfl)) (by decide) (by decide)
    · exact wx_of xt_Uncaught (c.init 12 (d := ⟨"Uncaught", "paper", "Uncaught.__init__", clsInit (top 15)⟩)) (xb ⟨"Uncaught", "paper", "Uncaught.__init__", clsInit (top 15)⟩ (List.mem_of_getElem? (i := 12) rfl)) (by decide) (by decide)
    · exact wx_of xt_BadName (c.init 13 (d := ⟨"BadName", "name", "BadName.__init__", clsInit (top 16)⟩)) (xb ⟨"BadName", "name", "BadName.__init__", clsInit (top 16)⟩ (List.mem_of_getElem? (i := 13) rfl)) (by decide) (by decide)
    · exact wx_of xt_NameTaken (c.init 14 (d := ⟨"NameTaken", "name", "NameTaken.__init__", clsInit (top 17)⟩)) (xb ⟨"NameTaken", "name", "NameTaken.__init__", clsInit (top 17)⟩ (List.mem_of_getElem? (i := 14) rfl)) (by decide) (by decide)
    · exact wx_of xt_NoWard (c.init 15 (d := ⟨"NoWard", "name", "NoWard.__init__", clsInit (top 18)⟩)) (xb ⟨"NoWard", "name", "NoWard.__init__", clsInit (top 18)⟩ (List.mem_of_getElem? (i := 15) rfl)) (by decide) (by decide)
    · exact wx_of xt_NotHeard (c.init 16 (d := ⟨"NotHeard", "heard", "NotHeard.__init__", clsInit (top 19)⟩)) (xb ⟨"NotHeard", "heard", "NotHeard.__init__", clsInit (top 19)⟩ (List.mem_of_getElem? (i := 16) rfl)) (by decide) (by decide)
    · exact wx_of xt_NotAlike (c.init 17 (d := ⟨"NotAlike", "log", "NotAlike.__init__", clsInit (top 20)⟩)) (xb ⟨"NotAlike", "log", "NotAlike.__init__", clsInit (top 20)⟩ (List.mem_of_getElem? (i := 17) rfl)) (by decide) (by decide)
    · exact wx_of xt_Harmful (c.init 18 (d := ⟨"Harmful", "paper", "Harmful.__init__", clsInit (top 21)⟩)) (xb ⟨"Harmful", "paper", "Harmful.__init__", clsInit (top 21)⟩ (List.mem_of_getElem? (i := 18) rfl)) (by decide) (by decide)
    · exact wx_of xt_BadRule (c.init 19 (d := ⟨"BadRule", "part", "BadRule.__init__", clsInit (top 25)⟩)) (xb ⟨"BadRule", "part", "BadRule.__init__", clsInit (top 25)⟩ (List.mem_of_getElem? (i := 19) rfl)) (by decide) (by decide)
    · exact wx_of xt_Disobeyed (c.init 20 (d := ⟨"Disobeyed", "paper", "Disobeyed.__init__", clsInit (top 26)⟩)) (xb ⟨"Disobeyed", "paper", "Disobeyed.__init__", clsInit (top 26)⟩ (List.mem_of_getElem? (i := 20) rfl)) (by decide) (by decide)
    · exact wx_of xt_Unheld (c.init 21 (d := ⟨"Unheld", "paper", "Unheld.__init__", clsInit (top 27)⟩)) (xb ⟨"Unheld", "paper", "Unheld.__init__", clsInit (top 27)⟩ (List.mem_of_getElem? (i := 21) rfl)) (by decide) (by decide)
    · exact wx_of xt_NeverTold (c.init 22 (d := ⟨"NeverTold", "paper", "NeverTold.__init__", clsInit (top 28)⟩)) (xb ⟨"NeverTold", "paper", "NeverTold.__init__", clsInit (top 28)⟩ (List.mem_of_getElem? (i := 22) rfl)) (by decide) (by decide)
  refine ⟨⟨⟨fr_ _ (by decide +kernel), fr_ _ (by decide +kernel), fr_ _ (by decide +kernel)⟩, fr_ _ (by decide +kernel), fr_ _ (by decide +kernel), fr_ _ (by decide +kernel), fr_ _ (by decide +kernel), fr_ _ (by decide +kernel), fr_ _ (by decide +kernel), fr_ _ (by decide +kernel), fr_ _ (by decide +kernel), fr_ _ (by decide +kernel),
    fun x hx => fg x ((by decide +kernel : ∀ x ∈ allN, x ∈ gl) x hx), wx, fun x hx => wnB_ok (List.all_eq_true.mp m3 x hx),
    fun x hx y hy => of_decide_eq_true (List.all_eq_true.mp (List.all_eq_true.mp m4 x hx) y hy), fun x hx => of_decide_eq_true (List.all_eq_true.mp m5 x hx), m6, m7, m8, wkB_ok m1⟩, ?_⟩
  cases e : K.lookup sysModules with
  | none => rw [e] at m9; cases m9
  | some o => exact ⟨o, rfl⟩
theorem facts {w : World} {K : PySem.W.Frag} {h : Heap} {mg : Str → Option Value} {f : Addr} (X : K.In h) (G : h.Ns mainGlobals mg) (hfa : mg ("law" : Str) = some (.ref f)) (c : SaysX fa fn xi ex K) :
    ∃ fd : FuncData, (∀ (s : Shared) (v : Value), BindsTo s fd ⟨[v], []⟩ [("script", v)]) ∧ ∀ base : Heap, K.In base → base.Ns mainGlobals mg → FnG Row1.prog w K mg base CX0 7 f fd ["script"] (spLaw K) := by
  obtain ⟨T, hsy⟩ := ty_of X G c
  have ff : ∀ f ∈ fa, f.ok K = true := fun f hf => by
    obtain ⟨i, hi⟩ := List.getElem?_of_mem hf
    exact c.base.fact i hi
  have fg : ∀ x ∈ gl, mg x = some (.ref (He.ga K x)) := fun x hx => He.glo_ok X G (ff _ (List.mem_append.mpr (.inl (List.mem_map.mpr ⟨x, hx, rfl⟩))))
  obtain ⟨fdK, FK⟩ := c.base.def_ 0 (d := d__law_deck) rfl
  obtain ⟨fdD, FD⟩ := c.base.def_ 1 (d := d__law_draw) rfl
  obtain ⟨fdP, FP⟩ := c.base.def_ 2 (d := d__law_pick) rfl
  obtain ⟨fda, Fa⟩ := c.base.def_ 3 (d := d__law_made_a) rfl
  obtain ⟨fdb, Fb⟩ := c.base.def_ 4 (d := d__law_made_b) rfl
  obtain ⟨fdc, Fc⟩ := c.base.def_ 5 (d := d__law_made_c) rfl
  obtain ⟨fdd, Fd⟩ := c.base.def_ 6 (d := d__law_made_d) rfl
  obtain ⟨fde, Fe⟩ := c.base.def_ 7 (d := d__law_made_bare) rfl
  obtain ⟨fdS, FS⟩ := c.base.def_ 8 (d := d__law_sorts) rfl
  obtain ⟨fdW, FW⟩ := c.base.def_ 9 (d := d__law_worth) rfl
  obtain ⟨fdC, FC⟩ := c.base.def_ 10 (d := d__law_is_caught) rfl
  obtain ⟨fdV, FV⟩ := c.base.def_ 11 (d := d__law_value) rfl
  obtain ⟨fdM, FM⟩ := c.base.def_ 12 (d := d__law_made) rfl
  obtain ⟨fdL, FL⟩ := c.base.def_ 13 (d := d_law) rfl
  have e := hfa.symm.trans (fg "law" (by decide +kernel))
  cases e
  have b := FunD.bindsA (ps := ["script"]) FL fun _ _ _ _ _ _ us hl => match us, hl with | [_], _ => rfl
  exact ⟨fdL, fun s v => b s [v] rfl, fun base _ _ => ok_law FL T hsy FK (fg "_law_deck" (by decide +kernel)) FD (fg "_law_draw" (by decide +kernel)) FP (fg "_law_pick" (by decide +kernel)) Fa (fg "_law_made_a" (by decide +kernel)) Fb (fg "_law_made_b" (by decide +kernel)) Fc (fg "_law_made_c" (by decide +kernel)) Fd (fg "_law_made_d" (by decide +kernel)) Fe (fg "_law_made_bare" (by decide +kernel)) FM (fg "_law_made" (by decide +kernel)) FS (fg "_law_sorts" (by decide +kernel)) FW (fg "_law_worth" (by decide +kernel)) FC (fg "_law_is_caught" (by decide +kernel)) FV (fg "_law_value" (by decide +kernel))⟩
end K01
open PySem PySem.W PySem.Calls PyProof.Rows
theorem PySem.Challenge.cw_rulewardens_k01_whole_errors_and_four_mo_holds : PySem.Challenge.rw_rulewardens_k01_whole_errors_and_four_mo.Holds := by
  w_on; o_law
  refine HandSHeadRun.head_any (r := OpenLaw.row PySem.Challenge.rw_rulewardens_k01_whole_errors_and_four_mo) (q := view (OpenLaw.row PySem.Challenge.rw_rulewardens_k01_whole_errors_and_four_mo).prog [43]) (H := K01.hk) (ob := K01.ob) (M := 16000) (loose := K01.lo) (d := HandSHeadRun.topDef (OpenLaw.row PySem.Challenge.rw_rulewardens_k01_whole_errors_and_four_mo).prog 43) (kwd := []) K01.ob_eq
    (by kernel_rfl) (fun s => by kernel_rfl) K01.run (by kernel_rfl) (by kernel_rfl) (by kernel_rfl) (by rfl) (by first | assumption | decide +kernel) (by decide +kernel) ⟨rfl, rfl, rfl, rfl, rfl, by decide +kernel⟩ ?hw ?hc
  case hw => w_witness2
  case hc =>
    refine Rw.walk_ofG (l := PySem.Challenge.rw_rulewardens_k01_whole_errors_and_four_mo) (n := 63) (k := 7) (x := "script") (CX := fun _ => L2.CX0) rfl (by decide) (by kernel_rfl) ⟨rfl, by decide, by decide⟩ ?F (fun _ _ _ _ _ z => z)
    intro w mg fa h Y G hmg0
    obtain ⟨K, KX, c⟩ := Y
    have hmg : mg ("law" : PySem.Str) = some (.ref fa) := by
      have e : (HandSHeadRun.topDef (OpenLaw.row PySem.Challenge.rw_rulewardens_k01_whole_errors_and_four_mo).prog 43).name = ("law" : PySem.Str) := by kernel_rfl
      rw [← e]
      exact hmg0
    obtain ⟨fd, hb, hF⟩ := K01.facts (w := w) KX G hmg c
    exact ⟨K, fd, K01.spLaw K, KX, hb, fun H a ns hl _ hS => ⟨a, ns, rfl, hS, fun _ => rfl⟩, hF⟩
