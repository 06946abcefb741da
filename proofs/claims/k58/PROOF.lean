import PyProof.Rows.All
import Wide.All
import OpenK.AllK
import Wide.FinOn
import KE.KStateDown
import HandS.Base
import HandS.Call
import HandS.List
import HandS.Comp
import HandS.Codes
import HandS.Dict
import HandS.Iter
import HandS.Text
import HandS.More
import HandS.Ends
import HandS.Exc
import HandS.ExcOwn
import HandS.TryOnly
import HandS.Words
import HandS.WordsList
import HandS.WordsDict
import HandS.WordsExc
import HandS.Defaults
import HandS.Style
import HandS.Wide
import HandS.IsInst
import HandS.ExcIs
import HandS.ExcField
import HandS.TupAny
import HandS.TupMul
import HandS.Small
import PyProof.ReprRoads
import PyProof.ReprReads
import PyProof.ReprText
import PyProof.StrBlock2
import PyProof.ReprLoop
import HandS.Head0
import HandS.Head1
import HandS.Head2
import HandS.HeadEnd
import HandS.HeadHook1
import HandS.HeadHook2
import KE.KExcSuper
import KE.KExcInit
import KE.KExcIs
import HandS.ExcSuper
import HandS.HeadWalk
import HandS.Set
import HandS.SetFor
import HandS.Strs
import PyProof.StrWalks
import PyProof.Rows.SortStr
import PyProof.Rows.SortShellAny
import PyProof.ListStr
import PyProof.EqAt
import PyProof.SliceStr2
import HandS.Walk
import PyProof.NeData
import HandS.SetKeys
import HandS.TupLen
import HandS.Deep
import PyProof.DictMoreH
import HandS.MakeKwOnly
import HandS.OwnEq
import HandS.SlotsOwn
import OpenK.KMeth
import HandS.Zip
import KE.KDictZip
import PyProof.ListNew
import PyProof.CollectWalk
import PySem.Challenge.RW_rulewardens_k58_onlookers_of_any_value
set_option Elab.async false
set_option linter.all false
set_option maxRecDepth 100000
set_option maxHeartbeats 2000000
/-! nested data in the abstract heap; its repr -/
namespace Rw
open PySem PySem.Spec PyProof.Rows L2

mutual
/-- data as it lies: every object of it tracked, at a place that ok lets -/
inductive Dq (H : Hp) (ok : Addr → Prop) : V → PyData → Prop
  | non : Dq H ok .non .none
  | bl (b : Bool) : Dq H ok (.bl b) (.bool b)
  | int (i : Int) : Dq H ok (.int i) (.int i)
  | str (x : Str) : Dq H ok (.str x) (.str x)
  | lst {a : Addr} {xs : List V} {ds : List PyData} : ok a → H a = some (.lst xs) → DqAll H ok xs ds → Dq H ok (.ref a) (.list ds)
  | tup {a : Addr} {xs : List V} {ds : List PyData} : ok a → H a = some (.tup xs) → DqAll H ok xs ds → Dq H ok (.ref a) (.tuple ds)
  | dic {a : Addr} {kvs : List (Key × V)} {ds : List (PyData × PyData)} : ok a → H a = some (.dK kvs) → DqAll H ok (kvs.map fun p => kV p.1) (ds.map (·.1)) →
      DqAll H ok (kvs.map (·.2)) (ds.map (·.2)) → Dq H ok (.ref a) (.dict ds)
inductive DqAll (H : Hp) (ok : Addr → Prop) : List V → List PyData → Prop
  | nil : DqAll H ok [] []
  | cons {v : V} {vs : List V} {d : PyData} {ds : List PyData} : Dq H ok v d → DqAll H ok vs ds → DqAll H ok (v :: vs) (d :: ds)
end

theorem key_val {k : Key} {u : Value} (h : keyIs k u = true) : RelV (kV k) u := by
  rcases keyIs_shape h with ⟨i, t, rfl, rfl⟩ | ⟨x, t, rfl, rfl⟩
  · exact ⟨t, rfl⟩
  · exact ⟨t, rfl⟩
theorem pairs_keys {P : Program} {w : World} {es : List DictEntry} {vs : List (Key × Value)} (h : Pairs (mixKind P w) es vs) :
    Vals (vs.map fun p => kV p.1) (es.map (·.key)) ∧ es.map (·.val) = vs.map (·.2) := by
  induction h with
  | nil => exact ⟨.nil, rfl⟩
  | cons h1 h2 h3 ih => exact ⟨.cons (key_val h1) ih.1, by rw [List.map_cons, List.map_cons, h2, ih.2]⟩
theorem kv_keys : ∀ {kvs : List (Key × V)} {vs : List (Key × Value)}, KV kvs vs → (kvs.map fun p => kV p.1) = (vs.map fun p => kV p.1) ∧ Vals (kvs.map (·.2)) (vs.map (·.2))
  | _, _, .nil => ⟨rfl, .nil⟩
  | _, _, .cons h t => by
    obtain ⟨e1, e2⟩ := kv_keys t
    exact ⟨by rw [List.map_cons, List.map_cons, e1, h.1], .cons h.2 e2⟩

section
variable {X : Cx} {pins : List (Addr × Obj)} {σ : List (Option V)} {H : Hp} {s : Shared} {ok : Addr → Prop}
/-- it is read off the heap as such data -/
theorem not_sys (I : Inv X pins σ H s) (hs : ∃ o, X.K.lookup sysModules = some o) {a : Addr} {o : HO} (h : H a = some o) : a ≠ sysModules := by
  obtain ⟨u, hu⟩ := hs
  intro e
  rw [e, (I.bs _ _ (I.ok.mod.kin _ _ hu)).2] at h
  cases h
theorem dq_reads (I : Inv X pins σ H s) (hsy : ∃ o, X.K.lookup sysModules = some o) {v : V} {d : PyData} (h : Dq H ok v d) : ∀ u, RelV v u → ∃ as, Reads s.heap u d as ∧ sysModules ∉ as := by
  refine Dq.rec (motive_1 := fun v d _ => ∀ u, RelV v u → ∃ as, Reads s.heap u d as ∧ sysModules ∉ as)
    (motive_2 := fun vs ds _ => ∀ us, Vals vs us → ∃ as, ReadsAll s.heap us ds as ∧ sysModules ∉ as) ?_ ?_ ?_ ?_ ?_ ?_ ?_ ?_ ?_ h
  · intro u r
    cases r
    exact ⟨_, .none, List.not_mem_nil⟩
  · intro b u r
    cases r
    exact ⟨_, .bool b, List.not_mem_nil⟩
  · intro i u r
    obtain ⟨t, rfl⟩ := r
    exact ⟨_, .int i t, List.not_mem_nil⟩
  · intro x u r
    obtain ⟨t, rfl⟩ := r
    exact ⟨_, .str x t, List.not_mem_nil⟩
  · intro a xs ds ho ha _ ih u r
    cases r
    obtain ⟨its, rv, ⟨o, n, hg, hc, _, hd⟩, _⟩ := I.list (SqL.of ha)
    obtain ⟨as, hr, hn⟩ := ih _ rv
    refine ⟨_, Reads.list hg hc hd hr, fun z => ?_⟩
    rcases List.mem_cons.mp z with z | z
    · exact not_sys I hsy ha z.symm
    · exact hn z
  · intro a xs ds ho ha _ ih u r
    cases r
    obtain ⟨its, rv, ⟨o, hg, hc, n, hd⟩, _⟩ := I.tuple (SqT.of ha)
    obtain ⟨as, hr, hn⟩ := ih _ rv
    exact ⟨_, Reads.tuple hg hc hd hr, hn⟩
  · intro a kvs ds ho ha _ _ ih1 ih2 u r
    cases r
    obtain ⟨_, hsys, vs, rkv, o, es, ep, hg, hx, hd, _, hp, _⟩ := (show ObjOk X.prog X.w H s.heap a (.dK kvs) from I.hok a _ ha)
    obtain ⟨e1, rv⟩ := kv_keys rkv
    obtain ⟨rk, e2⟩ := pairs_keys hp
    obtain ⟨as, hr1, hn1⟩ := ih1 _ (by rw [e1]; exact rk)
    obtain ⟨bs, hr2, hn2⟩ := ih2 (es.toList.map (·.val)) (by rw [e2]; exact rv)
    refine ⟨_, Reads.dict hg hx.1 hd hr1 hr2, fun z => ?_⟩
    rcases List.mem_append.mp z with z | z
    · rcases List.mem_cons.mp z with z | z
      · exact not_sys I hsy ha z.symm
      · exact hn1 z
    · exact hn2 z
  · intro us r
    cases r
    exact ⟨_, .nil, List.not_mem_nil⟩
  · intro v vs d ds _ _ ih1 ih2 us r
    cases r with
    | cons r1 r2 =>
      obtain ⟨as, hr1, hn1⟩ := ih1 _ r1
      obtain ⟨bs, hr2, hn2⟩ := ih2 _ r2
      exact ⟨_, .cons hr1 hr2, fun z => (List.mem_append.mp z).elim hn1 hn2⟩

/-- what repr asks -/
def rRepr : List V → Hp → VK → Prop := fun xs H Q => ∃ (ok : Addr → Prop) (v : V) (d : PyData), xs = [v] ∧ Dq H ok v d ∧ d.showable = true ∧ d.shown.length ≤ sizeLine ∧ d.depth ≤ 30 ∧ Q (.str d.shown) H
theorem call_repr (hg : X.A.guards = some []) (hu : X.A.units + 64 < cLine) (hsy : ∃ o, X.K.lookup sysModules = some o) : CallR X (.builtin "repr") rRepr := by
  intro pins s σ H xs us Q I r h
  obtain ⟨ok, v, d, rfl, hd, hs, hz, hp, q⟩ := h
  obtain ⟨u, rfl, ru⟩ := vals1 r
  obtain ⟨as, hr, hn⟩ := dq_reads I hsy hd u ru
  cases u with
  | ref a => exact repr_of_reads' hr hs (fun _ => hn) hg (by omega) (fun _ _ e => e) (fun h' u' tk hk => ⟨.str _, H, I.kept hk, ⟨u', rfl⟩, q⟩) hz
  | none =>
    cases hr
    exact PySem.P.repr_of_none ⟨.str _, H, I.tok _, ⟨_, rfl⟩, by simpa only [PyData.shown] using q⟩
  | bool b =>
    cases hr
    exact PySem.P.repr_of_bool ⟨.str _, H, I.tok _, ⟨_, rfl⟩, by simpa only [PyData.shown] using q⟩
  | int i t =>
    cases hr
    exact PySem.P.repr_of_int (by simpa [PyData.showable] using hs) ⟨.str _, H, I.tok _, ⟨_, rfl⟩, by simpa only [PyData.shown] using q⟩
  | str x t =>
    cases hr
    exact PySem.P.repr_of_str ⟨.str _, H, I.tok _, ⟨_, rfl⟩, by simpa only [PyData.shown] using q⟩ (by simpa only [PyData.shown] using hz)
  | _ => cases hr
end

/-- what grew: all that stood and is let stands -/
theorem Dq.mono {H H' : Hp} {ok ok' : Addr → Prop} (k : ∀ a o, ok a → H a = some o → H' a = some o ∧ ok' a) {v : V} {d : PyData} (h : Dq H ok v d) : Dq H' ok' v d := by
  refine Dq.rec (motive_1 := fun v d _ => Dq H' ok' v d) (motive_2 := fun vs ds _ => DqAll H' ok' vs ds) ?_ ?_ ?_ ?_ ?_ ?_ ?_ ?_ ?_ h
  · exact .non
  · exact fun b => .bl b
  · exact fun i => .int i
  · exact fun x => .str x
  · exact fun ho ha _ ih => .lst (k _ _ ho ha).2 (k _ _ ho ha).1 ih
  · exact fun ho ha _ ih => .tup (k _ _ ho ha).2 (k _ _ ho ha).1 ih
  · exact fun ho ha _ _ i1 i2 => .dic (k _ _ ho ha).2 (k _ _ ho ha).1 i1 i2
  · exact .nil
  · exact fun _ _ i1 i2 => .cons i1 i2
theorem DqAll.mono {H H' : Hp} {ok ok' : Addr → Prop} (k : ∀ a o, ok a → H a = some o → H' a = some o ∧ ok' a) : ∀ {vs : List V} {ds : List PyData}, DqAll H ok vs ds → DqAll H' ok' vs ds
  | _, _, .nil => .nil
  | _, _, .cons h t => .cons (h.mono k) (DqAll.mono k t)
theorem DqAll.append {H : Hp} {ok : Addr → Prop} : ∀ {vs ws : List V} {ds es : List PyData}, DqAll H ok vs ds → DqAll H ok ws es → DqAll H ok (vs ++ ws) (ds ++ es)
  | _, _, _, _, .nil, h => h
  | _, _, _, _, .cons h t, h' => .cons h (DqAll.append t h')
theorem DqAll.len {H : Hp} {ok : Addr → Prop} : ∀ {vs : List V} {ds : List PyData}, DqAll H ok vs ds → vs.length = ds.length
  | _, _, .nil => rfl
  | _, _, .cons _ t => by rw [List.length_cons, List.length_cons, DqAll.len t]
end Rw

set_option Elab.async false
set_option linter.all false
set_option maxRecDepth 100000
set_option maxHeartbeats 2000000
/-! how long, how deep data is that is written out -/
namespace Rw
open PySem PySem.Spec PyProof.Rows L2
theorem op_mul_str {X : Cx} : OpR X (binaryOp .Mult) (fun x y H Q => ∃ i n, x = .str i ∧ y = .int n ∧ MulOk i n ∧ Q (.str (Txt.mul i n)) H) := by
  intro pins s σ H x y v u Q I rx ry h
  obtain ⟨i, n, rfl, rfl, hok, q⟩ := h
  obtain ⟨t, rfl⟩ := rx
  obtain ⟨t', rfl⟩ := ry
  exact SB.mul hok fun t' tk => ⟨.str _, H, I.tok _, ⟨_, rfl⟩, q⟩
/-- what may be written out: n deep, B long -/
structure Show (n B : Nat) (d : PyData) : Prop where
  ok : d.showable = true
  len : d.shown.length ≤ B
  deep : d.depth ≤ n
theorem Show.mono {n m B C : Nat} {d : PyData} (h : Show n B d) (h1 : n ≤ m) (h2 : B ≤ C) : Show m C d := ⟨h.ok, Nat.le_trans h.len h2, Nat.le_trans h.deep h1⟩
theorem join_le {ts : List Str} {B : Nat} (h : ∀ t ∈ ts, t.length ≤ B) : (Str.join ", " ts).length ≤ ts.length * (B + 2) := by
  have hp : ∀ ts : List Str, (∀ t ∈ ts, t.length ≤ B) → piled ts ≤ ts.length * (B + 2) := by
    intro ts
    induction ts with
    | nil => intro _; exact Nat.zero_le _
    | cons t r ih =>
      intro h
      rw [piled_cons, List.length_cons, Nat.succ_mul]
      have h1 := h t (by simp)
      have h2 := ih fun x hx => h x (by simp [hx])
      omega
  cases ts with
  | nil => exact Nat.le_of_eq (by simp; rfl)
  | cons t r =>
    have h1 := join_length_add (t :: r) (by simp)
    have h2 := hp _ h
    omega
theorem all_shown {ds : List PyData} {B : Nat} (h : ∀ d ∈ ds, d.shown.length ≤ B) : ∀ t ∈ PyData.shownAll ds, t.length ≤ B := by
  induction ds with
  | nil => intro t ht; simp [PyData.shownAll] at ht
  | cons d r ih =>
    intro t ht
    rw [PyData.shownAll_cons] at ht
    rcases List.mem_cons.mp ht with e | e
    · rw [e]; exact h d (by simp)
    · exact ih (fun x hx => h x (by simp [hx])) t e
theorem all_deep {n : Nat} : ∀ {ds : List PyData}, (∀ d ∈ ds, d.depth ≤ n) → PyData.depthAll ds ≤ n
  | [], _ => by simp [PyData.depthAll]
  | d :: r, h => by
    simp only [PyData.depthAll]
    exact Nat.max_le.mpr ⟨h d (by simp), all_deep fun x hx => h x (by simp [hx])⟩
theorem Show.list {ds : List PyData} {n B : Nat} (h : ∀ d ∈ ds, Show n B d) : Show (n + 1) (ds.length * (B + 2) + 2) (.list ds) := by
  refine ⟨?_, ?_, ?_⟩
  · simp only [PyData.showable]
    exact showableAll_of fun x hx => (h x hx).ok
  · rw [PyData.shown_list, PySem.Str.length_append, PySem.Str.length_append]
    have h1 := join_le (all_shown fun d hd => (h d hd).len)
    rw [PyData.shownAll_length] at h1
    have h2 : ("[" : Str).length = 1 := rfl
    have h3 : ("]" : Str).length = 1 := rfl
    omega
  · simp only [PyData.depth]
    exact Nat.succ_le_succ (all_deep fun x hx => (h x hx).deep)
theorem Show.tuple {ds : List PyData} {n B : Nat} (h : ∀ d ∈ ds, Show n B d) : Show (n + 1) (ds.length * (B + 2) + 3) (.tuple ds) := by
  refine ⟨?_, ?_, ?_⟩
  · simp only [PyData.showable]
    exact showableAll_of fun x hx => (h x hx).ok
  · rw [PyData.shown_tuple, PySem.Str.length_append, PySem.Str.length_append]
    have h1 := join_le (all_shown fun d hd => (h d hd).len)
    rw [PyData.shownAll_length] at h1
    have h2 : ("(" : Str).length = 1 := rfl
    have h3 : (Str.ofString (if ds.length == 1 then ",)" else ")" : String)).length ≤ 2 := by split <;> decide
    omega
  · simp only [PyData.depth]
    exact Nat.succ_le_succ (all_deep fun x hx => (h x hx).deep)
theorem kv_shown {ds : List (PyData × PyData)} {B C : Nat} (h : ∀ d ∈ ds, d.1.shown.length ≤ C ∧ d.2.shown.length ≤ B) : ∀ t ∈ PyData.shownKv ds, t.length ≤ C + 2 + B := by
  induction ds with
  | nil => intro t ht; simp [PyData.shownKv] at ht
  | cons d r ih =>
    intro t ht
    obtain ⟨k, v⟩ := d
    rw [PyData.shownKv_cons] at ht
    rcases List.mem_cons.mp ht with e | e
    · rw [e, PySem.Str.length_append, PySem.Str.length_append]
      have h1 := h (k, v) (by simp)
      have h2 : (": " : Str).length = 2 := rfl
      have h3 := h1.1
      have h4 := h1.2
      simp only at h3 h4
      omega
    · exact ih (fun x hx => h x (by simp [hx])) t e
theorem kv_len : ∀ ds : List (PyData × PyData), (PyData.shownKv ds).length = ds.length
  | [] => by simp [PyData.shownKv]
  | (k, v) :: r => by rw [PyData.shownKv_cons, List.length_cons, List.length_cons, kv_len r]
theorem kv_deep {n : Nat} : ∀ {ds : List (PyData × PyData)}, (∀ d ∈ ds, d.1.depth ≤ n ∧ d.2.depth ≤ n) → PyData.depthKv ds ≤ n
  | [], _ => by simp [PyData.depthKv]
  | (k, v) :: r, h => by
    simp only [PyData.depthKv]
    have h1 := h (k, v) (by simp)
    exact Nat.max_le.mpr ⟨Nat.max_le.mpr h1, kv_deep fun x hx => h x (by simp [hx])⟩
theorem Show.dict {ds : List (PyData × PyData)} {n B C : Nat} (h : ∀ d ∈ ds, Show n C d.1 ∧ Show n B d.2) : Show (n + 1) (ds.length * (C + 2 + B + 2) + 2) (.dict ds) := by
  refine ⟨?_, ?_, ?_⟩
  · simp only [PyData.showable]
    exact showableKv_of fun x hx => ⟨(h x hx).1.ok, (h x hx).2.ok⟩
  · rw [PyData.shown_dict, PySem.Str.length_append, PySem.Str.length_append]
    have h1 := join_le (kv_shown fun d hd => ⟨(h d hd).1.len, (h d hd).2.len⟩)
    rw [kv_len] at h1
    have h2 : ("{" : Str).length = 1 := rfl
    have h3 : ("}" : Str).length = 1 := rfl
    omega
  · simp only [PyData.depth]
    exact Nat.succ_le_succ (kv_deep fun x hx => ⟨(h x hx).1.deep, (h x hx).2.deep⟩)
theorem DqAll.at {H : Hp} {ok : Addr → Prop} : ∀ {vs : List V} {ds : List PyData} {i : Nat} {x : V}, DqAll H ok vs ds → vs[i]? = some x → ∃ d, ds[i]? = some d ∧ Dq H ok x d
  | _, _, 0, _, .cons h _, e => by cases e; exact ⟨_, rfl, h⟩
  | _, _, i + 1, _, .cons _ t, e => DqAll.at (i := i) t e
end Rw

set_option Elab.async false
set_option linter.all false
set_option maxRecDepth 100000
set_option maxHeartbeats 2000000
/-! a def's promise where nothing is being written out (guards known to be none): needed by repr -/
namespace Rw
open PySem PySem.Spec PyProof.Rows L2

structure FnG (P : Program) (w : World) (K : PySem.W.Frag) (mg : Str → Option Value) (base : Heap) (CX : CXT) (k : Nat) (f : Addr) (fd : FuncData) (ps : List Str) (sp : Sp) : Prop where
  size : ∀ vs H Q E, sp vs H Q E → vs.length = ps.length
  go : ∀ (A : Around) (outer : List Env) (s : Shared) (H : Hp) (args : Args) (us : List Value) (vs : List V) (Q : VK) (E : XK), A.guards = some [] → Room k A → Env0 P w K mg base A outer s H →
    BindsTo s fd args (ps.zip us) → Vals vs us → sp vs H Q E → codeAny (model P w) A (.call (.ref f) args) (CR CX outer P w H s Q E) s

section
variable {P : Program} {w : World} {K : PySem.W.Frag} {mg : Str → Option Value} {base : Heap} {CX : CXT} {k : Nat} {f : Addr} {fd : FuncData} {ps : List Str} {sp : Sp}
theorem FnG.of (F : FnOk P w K mg base CX k f fd ps sp) : FnG P w K mg base CX k f fd ps sp :=
  ⟨F.len, fun A outer s H args us vs Q E _ hr e0 hb r hs => F.run A outer s H args us vs Q E hr e0 hb r hs⟩
theorem FnG.up {j : Nat} (F : FnG P w K mg base CX j f fd ps sp) (h : j ≤ k) : FnG P w K mg base CX k f fd ps sp :=
  ⟨F.size, fun A outer s H args us vs Q E hg hr => F.go A outer s H args us vs Q E hg (hr.mono h)⟩

/-- by the body, the guards told -/
theorem fng_body {x qual : Str} {params : Arguments} {body : List Stmt} {scope : Scope} {dvs : List V} {kws : List (Str × V)} {N : List Str}
    (F : FunD K x qual params body scope dvs kws f fd) (S : FnScope N ps scope) (len : ∀ vs H Q E, sp vs H Q E → vs.length = ps.length)
    (hb : ∀ (cdv : Value) (A : Around) (outer : List Env) (s : Shared) (H : Hp) (vs : List V) (Q : VK) (E : XK), (A.deeper (envOfC qual scope s.heap.objs.size f cdv)).guards = some [] →
      Room k (A.deeper (envOfC qual scope s.heap.objs.size f cdv)) → sp vs H Q E →
      ∃ t, PSs (cxOf CX P w K mg base N qual scope f cdv A outer s H E) body t ∧ t { nx := fun _ H' => Q .non H', rt := Q } (start N vs) H) :
    FnG P w K mg base CX (k + 1) f fd ps sp := by
  obtain ⟨oc, od, dV, kV, doc, pm, an, cdv, ct, osl, rfl, lk, hcd, _, _⟩ := F.ex
  refine ⟨len, ?_⟩
  intro A outer s H args us vs Q E hg hr e0 bnd rel hsp
  have n := len _ _ _ _ hsp
  have keep : ∀ b o, base.get? b = some o → s.heap.get? b = some o := fun b o e => (e0.bs b o e).1
  have KX : K.In s.heap := e0.mod.kin.keeps keep
  have kinds : ∀ y ∈ ps.zip us, scope.names.lookup y.1 = some .local ∨ (scope.names.lookup y.1 = some .cell ∧ ((cellsFrom (s.heap.objs.size + 1) scope.names []).lookup y.1).isSome = true) := by
    intro y hy
    obtain ⟨m, v⟩ := y
    have hm := S.par m (List.of_mem_zip hy).1
    exact hm.imp id fun q => ⟨q, PySem.W.cellsFrom_some _ _ _ (.inl q)⟩
  refine codeAny_call_function hr.depth (KX _ _ lk) rfl S.co S.gen rfl (PySem.W.codeRec_of KX hcd) (bnd _ _ _ _ ?_)
  refine wpAny_newFunctionEnv_cells S.kind kinds fun env henv s1 inC => ?_
  subst henv
  refine ⟨(e0.mod.nolimit.keeps keep).keeps inC.toInCall.keep, codeAny_func ?_⟩
  obtain ⟨t, run, h0⟩ := hb cdv A outer s H vs Q E hg (hr.deeper _) hsp
  have I0 : Inv (cxOf CX P w K mg base N qual scope f cdv A outer s H E) [] (start N vs) H s1 := inv_start S hr.hd e0 n rel inC
  refine wpAny_mono (run.run [] s1 (start N vs) H _ I0 h0) ?_ (fun e s' z => z)
  intro fl s' z
  match fl, z with
  | .ret u, ⟨v, σ', H', J, rv, q⟩ => exact ⟨v, H', J.os, J.bare, J.base, J.hok, rv, q⟩
  | .next, ⟨σ', H', J, q⟩ => exact ⟨.non, H', J.os, J.bare, J.base, J.hok, rfl, q⟩
  | .brk, ⟨_, _, _, q⟩ => exact q.elim
  | .cont, ⟨_, _, _, q⟩ => exact q.elim
end

section
variable {X : Cx} {CX : CXT} {k : Nat} {f : Addr} {fd : FuncData} {ps : List Str} {sp : Sp} {dvs : List V} {ds : List Value} {E : XK} {x : Str} {p pos : Pos} {e : Expr} {es : List Expr} {t : TA}
theorem fng_call {pins : List (Addr × Obj)} {σ : List (Option V)} {H : Hp} {s : Shared} {Q : VK} {us : List Value} {vs : List V} (F : FnG X.prog X.w X.K X.mg X.base CX k f fd ps sp) (hg : X.A.guards = some []) (hr : Room k X.A) (hb : Binds X.K fd ps ds)
    (hd : Vals dvs ds) (hx : Passes CX X E) (I : Inv X pins σ H s) (r : Vals vs us) (h : sp (vs ++ dvs) H Q E) : wpAny (model X.prog X.w) X.A (call (.ref f) us) (EP X pins σ Q) X.xe s := by
  have rel : Vals (vs ++ dvs) (us ++ ds) := r.append hd
  have n : (us ++ ds).length = ps.length := rel.length ▸ F.size _ _ _ _ h
  refine wpAny_call (codeAny_mono (F.go X.A X.stack s H ⟨us, []⟩ (us ++ ds) (vs ++ dvs) Q E hg hr I.env0 (hb s us I.kIn n) rel h) ?_)
  intro r s' z
  match r, z with
  | .error e, z => exact hx pins σ H s e s' I z
  | .ok (.ret u), z => exact I.after z
  | .ok .next, z => exact z.elim
  | .ok .brk, z => exact z.elim
  | .ok .cont, z => exact z.elim
/-- f(e, ..) of such a def -/
theorem pe_callG (F : FnG X.prog X.w X.K X.mg X.base CX k f fd ps sp) (hgd : X.A.guards = some []) (hr : Room k X.A) (hg : Gl X x) (hm : X.mg x = some (.ref f)) (hk : PySem.W.keepIn X.K (.ref f) = true) (hb : Binds X.K fd ps ds) (hd : Vals dvs ds)
    (hx : Passes CX X E) (ha : PA X (e :: es) t) (hdb : (x == ("__debug__" : Str)) = false := by decide) (he : starEach (e :: es) X.env = (false, eval e X.env) :: starEach es X.env := by rfl)
    (hpl : (backTo pos (starEach es X.env)).any (·.1) = false := by rfl) : PE X (.Call (.Name x p) (e :: es) [] pos) (tCall sp dvs E t) :=
  ⟨fun pins s σ H Q I h => wpAny_Call_Name_kw (ld_glob I hg hm (PySem.W.callWith_K (h₀ := X.base) I.ok.mod.kin hk
    (thn (ha.run pos pins s σ H _ I h) fun us s1 ⟨vs, H1, I1, r, q⟩ => ⟨I1.kIn, fng_call F hgd hr hb hd hx I1 r q⟩) he hpl) hdb)⟩
end
/-- no exception gets out: so it is a promise without -/
theorem FnG.to0 {P : Program} {w : World} {K : PySem.W.Frag} {mg : Str → Option Value} {base : Heap} {k : Nat} {f : Addr} {fd : FuncData} {ps : List Str} {sp : Sp} (F : FnG P w K mg base (CX P w) k f fd ps sp) : FnG P w K mg base CX0 k f fd ps (fun vs H Q _ => sp vs H Q E0) := by
  refine ⟨fun vs H Q E h => F.size vs H Q _ h, fun A outer s H args us vs Q E hg hr e0 hb r hs => ?_⟩
  refine codeAny_mono (F.go A outer s H args us vs Q E0 hg hr e0 hb r hs) fun r s' z => ?_
  match r, z with
  | .error e, z =>
    obtain ⟨a, B, H', cls, d, _, _, _, _, _, _, _, q⟩ := z
    exact absurd q (fun z => (z : False))
  | .ok (.ret u), z => exact z
  | .ok .next, z => exact z
  | .ok .brk, z => exact z
  | .ok .cont, z => exact z
/-- the rule for a def whose body writes out (repr): as FunD.ok, the guards told -/
theorem fn_okG {P : Program} {w : World} {K : PySem.W.Frag} {mg : Str → Option Value} {base : Heap} {k : Nat} {f : Addr} {fd : FuncData} {ps : List Str} {sp : Sp}
    {x qual : Str} {params : Arguments} {body : List Stmt} {scope : Scope} {dvs : List V} {kws : List (Str × V)} {N : List Str}
    (F : FunD K x qual params body scope dvs kws f fd) (S : FnScope N ps scope) (len : ∀ vs H Q E, sp vs H Q E → vs.length = ps.length)
    (hb : ∀ (cdv : Value) (A : Around) (outer : List Env) (s : Shared) (H : Hp) (vs : List V) (Q : VK) (E : XK), (A.deeper (envOfC qual scope s.heap.objs.size f cdv)).guards = some [] →
      Room k (A.deeper (envOfC qual scope s.heap.objs.size f cdv)) → sp vs H Q E →
      ∃ t, PSs (cxOf CX0 P w K mg base N qual scope f cdv A outer s H E).nox body t ∧ t { nx := fun _ H' => Q .non H', rt := Q } (start N vs) H) :
    FnG P w K mg base CX0 (k + 1) f fd ps sp :=
  fng_body F S len fun cdv A outer s H vs Q E hg hr hsp => by
    obtain ⟨t, h, q⟩ := hb cdv A outer s H vs Q E hg hr hsp
    exact ⟨t, h.nox, q⟩
end Rw

set_option Elab.async false
set_option linter.all false
set_option maxRecDepth 100000
set_option maxHeartbeats 2000000
/-! the end of a law whose def is promised with the guards told -/
namespace Rw
open PySem PySem.Spec PyProof.Rows L2

section
variable {P : Program} {w : World} {K : PySem.W.Frag} {mg mb : Str → Option Value} {CX : CXT} {k : Nat} {fa a : Addr} {fd : FuncData} {x : Str} {sp : Sp} {s : Shared} {vs : List Value} {ns : List Int}
/-- with an abstract heap that tracks the script alone, or nothing -/
theorem law_goes (KX : K.In s.heap) (hns : s.heap.Ns mainGlobals mg) (hmb : s.heap.Ns builtinsNs mb) (hbb : ∀ y : Str, y ≠ "__name__" → mb y = bootBuiltins y) (hlim : s.heap.NoLimit) (hgen : s.gens = #[])
    (ha : s.heap.get? a = some { cls := .type "list", data := .seq vs.toArray }) (hr : Room k callerA)
    (F : ∀ base : Heap, K.In base → base.Ns mainGlobals mg → FnG P w K mg base CX k fa fd [x] sp) (bnd : ∀ (s : Shared) (u : Value), BindsTo s fd ⟨[u], []⟩ [(x, u)])
    (stop : ∀ H e s', CX [] H s (fun _ _ _ => False) e s' → False) {H : Hp} (only : ∀ b o, H b = some o → b = a ∧ K.lookup a = none ∧ ∃ ob u, o = .frz ob u) (hok : HOk P w H s.heap)
    (hsp : sp [.ref a] H (fun v _ => v = .bl true) fun _ _ _ => False) :
    codeAny (model P w) callerA (.call (.ref fa) ⟨[.ref a], []⟩) (fun r s' => r = .ok (.ret (.bool true)) ∧ OldK s.heap s'.heap ∧ s'.os = s.os ∧ AllBare s'.gens) s := by
  have free : ∀ {b : Addr} {o : Obj} {es : Array DictEntry} {ep : Nat}, s.heap.get? b = some o → o.data = .dict es ep → H b = none := by
    intro b o es ep e d
    cases q : H b with
    | none => rfl
    | some u =>
      obtain ⟨rfl, _⟩ := only b u q
      rw [ha] at e
      cases e
      cases d
  have nsB : ∀ {b : Addr} {m : Str → Option Value}, s.heap.Ns b m → (hidT s.heap H).Ns b m := by
    intro b m z
    obtain ⟨o, es, ep, e, d, r⟩ := z
    exact ⟨o, es, ep, hidT_get e (free e d), d, r⟩
  have KB : K.In (hidT s.heap H) := by
    intro b o e
    refine hidT_get (KX b o e) ?_
    cases q : H b with
    | none => rfl
    | some u =>
      obtain ⟨rfl, n, _⟩ := only b u q
      rw [n] at e
      cases e
  obtain ⟨ml, l1, l2⟩ := hlim
  have M : Mod K mg (hidT s.heap H) := ⟨KB, nsB hns, ⟨mb, nsB hmb, hbb⟩, ml, nsB l1, l2⟩
  have e0 : Env0 P w K mg (hidT s.heap H) callerA [] s H :=
    ⟨rfl, M, fun b o e => of_hidT e, by rw [hidT_size]; exact Nat.le_refl _, trivial, fun b z => (List.not_mem_nil (show b ∈ ([] : List Addr) from z)).elim, hok, .of_eq hgen⟩
  refine codeAny_mono ((F _ KB (nsB hns)).go callerA [] s H ⟨[.ref a], []⟩ [.ref a] [.ref a] _ _ rfl hr e0 (bnd s (.ref a)) (.cons rfl .nil) hsp) ?_
  intro r s' z
  match r, z with
  | .error e, z => exact (stop H e s' z).elim
  | .ok .next, z => exact z.elim
  | .ok .brk, z => exact z.elim
  | .ok .cont, z => exact z.elim
  | .ok (.ret u), ⟨v, H', os, bare, un, hok', rv, q⟩ =>
    subst q
    cases rv
    refine ⟨rfl, OldK.of_keep fun b o e => ?_, os, bare⟩
    cases q : H b with
    | none => exact un.keep b o e q (fun z => (List.not_mem_nil (show b ∈ ([] : List Addr) from z)).elim) List.not_mem_nil
    | some u =>
      obtain ⟨_, _, ob, u', rfl⟩ := only b u q
      have e1 := (hok b _ q).1
      have e2 := (hok' b _ (un.frzs b ob u' q)).1
      rw [e] at e1
      cases e1
      exact e2
end

/-- THE END: Y gives the written part, the law's promise (guards told), over every base -/
theorem walk_ofG {l : PySem.W.OpenLaw} {n k : Nat} {q : Program} {loose : List Str} {XP : (Str → Option Value) → Heap → Prop} {YP : World → Heap → Prop} {d : DefRec} {CX : World → CXT} {x : Str}
    (hn : l.most = some n) (hn2 : n ≤ sizeLine) (hdf : d.params.defaults = []) (hr : Room k callerA)
    (F : ∀ (w : World) (mg : Str → Option Value) (fa : Addr) (h : Heap), YP w h → h.Ns mainGlobals mg → mg d.name = some (.ref fa) →
      ∃ (K : PySem.W.Frag) (fd : FuncData) (sp : Sp), K.In h ∧ (∀ (s : Shared) (u : Value), BindsTo s fd ⟨[u], []⟩ [(x, u)]) ∧
        (∀ (H : Hp) (a : Addr) (ns : List Int), ns.length ≤ n → (∀ b o, H b = some o → ∃ ob u, o = .frz ob u) → SqL K H a (ns.map V.int) → sp [.ref a] H (fun v _ => v = .bl true) fun _ _ _ => False) ∧
        ∀ base : Heap, K.In base → base.Ns mainGlobals mg → FnG l.prog w K mg base (CX w) k fa fd [x] sp)
    (stop : ∀ (w : World) (H : Hp) (s : Shared) (e : Value) (s' : Shared), CX w [] H s (fun _ _ _ => False) e s' → False) :
    PySem.W.WalkO q loose XP YP l.row.toRowW d [] (fun f vs => PySem.call f vs) := by
  refine Att.attach_call hn hdf fun w s₀ s₁ mg mb fa o pm cd doc a vs ns G Y ho hd hcd hmg hobj hints hlen hg => ?_
  obtain ⟨K, fd, sp, KX, hb, hsp, hF⟩ := F w mg fa _ Y G.T.g hmg
  have rv := vals_ints hints
  have nv := hints.length
  have sz : ns.length ≤ sizeLine := Nat.le_trans hlen hn2
  cases hk : K.lookup a with
  | some ob =>
    have e := KX a ob hk
    rw [hobj] at e
    cases e
    exact law_goes (H := fun _ => none) KX G.T.g G.T.b G.T.builtins G.T.nolimit hg hobj hr hF hb (fun H e s' => stop w H s₁ e s') (fun b o z => nomatch z) (fun b o z => nomatch z)
      (hsp _ a ns hlen (fun b o z => nomatch z) (.inr ⟨_, vs.toArray, _, hk, rfl, rfl, rfl, by rw [List.size_toArray, nv]; exact sz, by simpa using rv⟩))
  | none =>
    have at_ : ∀ {b : Addr} {o : HO}, (if b = a then some (HO.frz { cls := .type "list", data := .seq vs.toArray } (.lst (ns.map V.int))) else none) = some o → b = a ∧ o = .frz { cls := .type "list", data := .seq vs.toArray } (.lst (ns.map V.int)) := by
      intro b o z
      by_cases hb : b = a
      · rw [if_pos hb] at z
        exact ⟨hb, (Option.some.inj z).symm⟩
      · rw [if_neg hb] at z
        cases z
    refine law_goes (H := fun b => if b = a then some (.frz { cls := .type "list", data := .seq vs.toArray } (.lst (ns.map V.int))) else none) KX G.T.g G.T.b G.T.builtins G.T.nolimit hg hobj hr hF hb (fun H e s' => stop w H s₁ e s')
      (fun b o z => ⟨(at_ z).1, hk, _, _, (at_ z).2⟩) (fun b o z => ?_) (hsp _ a ns hlen (fun b o z => ⟨_, _, (at_ z).2⟩) (.inl (.inr ⟨_, if_pos rfl⟩)))
    obtain ⟨rfl, rfl⟩ := at_ z
    exact ⟨hobj, by rw [List.length_map]; exact sz, vs, _, rv, hobj⟩
end Rw

set_option Elab.async false
set_option linter.all false
set_option maxRecDepth 100000
set_option maxHeartbeats 2000000
/-! the head's facts: defs by their texts, facts by names, and further ones of one's own (ex) -/
namespace Rw
open PySem PySem.Spec PyProof.Rows L2

/-- the written part: what the module's names reach in n steps, and two objects of the start -/
def frR (n : Nat) (g : Addr → Option Obj) : PySem.W.Frag := He.frG g (sysModules :: cStatics :: He.asD g n)
abbrev AlR : Type := Bool × List He.FnW
def obsR (n : Nat) (fa : List He.Fa) (fn : List He.DefD) (ex : PySem.W.Frag → Bool) (g : Addr → Option Obj) : AlR :=
  (((fa.all fun f => f.ok (frR n g)) && fn.all fun d => d.ok (frR n g)) && ex (frR n g), fn.map fun d => He.fnW (frR n g) d.at_)
structure SaysR (fa : List He.Fa) (fn : List He.DefD) (ex : PySem.W.Frag → Bool) (K : PySem.W.Frag) : Prop where
  base : He.SaysD fa fn K
  more : ex K = true
def hookR (n : Nat) (fa : List He.Fa) (fn : List He.DefD) (ex : PySem.W.Frag → Bool) : PySem.W.Hook where
  α := AlR
  obs := fun s => obsR n fa fn ex s.heap.get?
  val := fun _ => He.valD fn
  says := fun _ h => ∃ K : PySem.W.Frag, K.In h ∧ SaysR fa fn ex K
  of := fun _ s e => by
    have e1 : (((fa.all fun f => f.ok (frR n s.heap.get?)) && fn.all fun d => d.ok (frR n s.heap.get?)) && ex (frR n s.heap.get?)) = true := congrArg (fun z : AlR => z.1) e
    have e2 : (fn.map fun d => He.fnW (frR n s.heap.get?) d.at_) = fn.map He.DefD.val := congrArg (fun z : AlR => z.2) e
    obtain ⟨h1, h2⟩ := He.ba e1
    exact ⟨frR n s.heap.get?, He.frG_in, ⟨Prod.ext h1 e2, h2⟩⟩
  keeps := fun _ _ _ ⟨K, hK, c⟩ k => ⟨K, PySem.W.Frag.In.keeps hK k, c⟩
def obR (n : Nat) (fa : List He.Fa) (fn : List He.DefD) (ex : PySem.W.Frag → Bool) (s : PySem.W.SharedT) : AlR := obsR n fa fn ex (HandSHeadRun.getT s)
theorem obR_eq (n : Nat) (fa : List He.Fa) (fn : List He.DefD) (ex : PySem.W.Frag → Bool) (s : PySem.W.SharedT) : obR n fa fn ex s = (hookR n fa fn ex).obs s.abs := by
  have e : HandSHeadRun.getT s = s.abs.heap.get? := funext (HandSHeadRun.getT_eq s)
  show obsR n fa fn ex (HandSHeadRun.getT s) = obsR n fa fn ex s.abs.heap.get?
  rw [e]
end Rw

set_option Elab.async false
set_option linter.all false
set_option maxRecDepth 100000
set_option maxHeartbeats 2000000
/-! an own exception whose __init__ is: super().__init__(p); self.p = p. Made, by the bare machine -/
namespace Rw
open PySem PySem.W PySem.Calls PyProof.Rows

abbrev bmE : List Value := [.type "Exception", .type "BaseException", .type "object"]
/-- such an exception: the class at C, its arguments at t, its dict d -/
abbrev xo (C t : Addr) (d : Option Addr) : Obj := { cls := .ref C, dict := d, data := .fields #[.ref t, .none, .none, .none, .bool false, .none] }

section
open Builtin Builtin.ObjectAttr
variable {prog : Program} {w : World} {A : Around} {R : Result → Shared → Prop} {hp : Heap} {g : Array GenState} {d : Drawn} {tk0 : Nat} {os : OsState}
/-- its first attribute is stored: a dict is made -/
theorem xo_store {K : Frag} {name : Str} {tk : Tok} {v : Value} {x C t : Addr} (X : K.In hp) (hx : hp.get? x = some (xo C t none)) (hov : excOver K C bmE = true) (htk : takerIn K C name = some none) (hh : hasDictIn K C = true)
    (hq : ∀ h' tk' dx, (∀ b o, b ≠ x → hp.get? b = some o → h'.get? b = some o) → hp.objs.size ≤ dx → dx ≠ x → h'.get? x = some (xo C t (some dx)) →
      h'.Ns1 dx (fun y => if y = name then some v else none) → R (.ok (.ret .none)) ⟨h', g, d, tk', os⟩) :
    codeAny (model prog w) A (.call (.builtin "object.__setattr__") ⟨[.ref x, .str name tk, v], []⟩) R ⟨hp, g, d, tk0, os⟩ := by
  refine osa_openX (od := none) (ox := xo C t none) PySem.F.store_Exception X ⟨hx, rfl, rfl, trivial⟩ hov htk fun b => ?_
  obtain ⟨cd, hcd, hdict⟩ := any_some hh
  have hcls : Looks (model prog w) hp (classData C) cd := looks_clsIn X hcd
  have apart : x ≠ hp.objs.size := Nat.ne_of_lt (Heap.lt_size hx)
  obtain ⟨nm, bs, mro, ns, qn, hd, sn, sb, ab, col, del⟩ := cd
  dsimp only at hdict
  subst hdict
  show wpAny _ _ (storeInOwnDict (.ref x) (.ref C) (.str name tk) name v b) _ _ _
  unfold storeInOwnDict ownDictForStores
  repeat (first | with_reducible refine HandSPX.store_in_new ?_ ?_ | with_reducible refine wpAny_loadPart_at hx ?_ | with_reducible refine hcls.at ?_ | wp_step)
  · exact ⟨_, #[], _, (Heap.get?_update_ne _ _ _ _ apart.symm).trans (Heap.get?_push_at rfl rfl), rfl, fun e he => absurd he (by simp), fun _ => rfl⟩
  · intro h' tk' ns' same
    have hx1 : (hp.push { cls := .type "dict", data := .dict #[] }).get? x = some (xo C t none) := Heap.get?_push_of_some _ hx
    refine hq h' tk' hp.objs.size (fun b o hb ho => ?_) (Nat.le_refl _) apart.symm ?_ ns'
    · exact (same.2 b (Nat.ne_of_lt (Heap.lt_size ho))).trans ((Heap.get?_update_ne _ _ _ _ hb).trans (Heap.get?_push_of_some _ ho))
    · exact (same.2 x apart).trans (Heap.get?_update_self _ hx1 rfl)
end
end Rw

set_option Elab.async false
set_option linter.all false
set_option maxRecDepth 100000
set_option maxHeartbeats 2000000
namespace Rw
open PySem PySem.W PySem.Calls PyProof.Rows

/-- the text of such an __init__ -/
def iPars (p : Str) (p1 p2 : Pos) : Arguments := { posonlyargs := [], args := [{ arg := "self", annotation := none, pos := p1 }, { arg := p, annotation := none, pos := p2 }], vararg := none, kwonlyargs := [], kw_defaults := [], kwarg := none, defaults := [] }
def iBody (p : Str) (q1 q2 q3 q4 q5 q6 q7 q8 q9 q10 : Pos) : List Stmt :=
  [.Expr (.Call (.Attribute (.Call (.Name "super" q1) [] [] q2) "__init__" q3) [.Name p q4] [] q5) q6, .Assign [.Attribute (.Name "self" q7) p q8] (.Name p q9) q10]
abbrev iSc (ns : List (Str × NameKind)) : Scope := { kind := .function, names := ns, isGenerator := false, isCoroutine := false, more := [] }
/-- what its names are -/
structure IScope (p : Str) (ns : List (Str × NameKind)) : Prop where
  nocell : ∀ x ∈ ns, x.2 ≠ .cell
  self : ns.lookup ("self" : Str) = some .local
  par : ns.lookup p = some .local
  cls : ns.lookup ("__class__" : Str) = some .free
  sup : ns.lookup ("super" : Str) = some .globalImplicit

/-- o.name(args) on one line -/
theorem line_call {o : Expr} {name : Str} {apos pos : Pos} {args : List Expr} {env : Env} (hl : (apos.endLine == pos.line) = true) (hf : methodCallForm args.length (backTo pos (starEach args env)) [] = true)
    (e : eval (.Call (.Attribute o name apos) args [] pos) env = (do
      let ov ← attributeBase o name env (eval o env)
      standAt apos.atName
      methodCall o name apos pos env ov args.length (backTo pos (starEach args env)) [])) :
    eval (.Call (.Attribute o name apos) args [] pos) env = (do
      let ov ← attributeBase o name env (eval o env)
      standAt apos.atName
      let (f, first) ← holding [ov] (getMethod ov name (L2.plainOf o env))
      callWith pos f first (backTo pos (starEach args env)) []) := by
  rw [e]
  simp only [L2.mcall_line hf hl]

section
variable {prog : Program} {w : World} {A : Around} {R : Result → Shared → Prop} {s : Shared} {K : Frag} {mg mb : Str → Option Value} {C fI cc cda : Addr} {p : Str}
  {oc ccl cl kV doc pm ct : Value} {od cdd cld : Option Addr} {osl ccs csl : Array (Option Value)} {an : Option Addr} {vs : Array Value} {file q : Str} {tf : Tok} {p1 p2 q1 q2 q3 q4 q5 q6 q7 q8 q9 q10 : Pos} {ns : List (Str × NameKind)}
theorem xo_init (X : K.In s.heap) (hlim : s.heap.NoLimit) (hG : s.heap.Ns mainGlobals mg) (hsup : mg "super" = none) (hB : s.heap.Ns builtinsNs mb) (hbs : mb "super" = some (.type "super"))
    (hfo : K.lookup fI = some ⟨oc, od, .func (fnX "__init__" q (iPars p p1 p2) (iBody p q1 q2 q3 q4 q5 q6 q7 q8 q9 q10) (iSc ns) [("__class__", cc)] .none kV doc pm an (.ref cda) ct), osl⟩)
    (hsc : IScope p ns) (hcd : codeIn K (.ref cda) q = true) (hcode : K.lookup cda = some ⟨ccl, cdd, .fields vs, ccs⟩) (hvs : vs[2]? = some (.str file tf)) (hfile : ((prog.main.file : Str) == file) = true)
    (htop : (prog.main.scope.names.lookup ("super" : Str)).isSome = false) (hcell : K.lookup cc = some ⟨cl, cld, .cell (some (.ref C)), csl⟩)
    (hself : mroIn K C (.ref C) = some true) (hci : (clsIn K C).isSome = true) (hop : nsIn K cStatics "thirdparty.any" = some none) (hsi : ks_superIn K C C "__init__" = some (some (.builtin "Exception.__init__"))) (hE : subIn K (.ref C) (.type "Exception") = some true)
    (hsa : findIn K (.ref C) "__setattr__" = some (some (.builtin "object.__setattr__"))) (hov : excOver K C bmE = true) (htk : takerIn K C p = some none) (hh : hasDictIn K C = true) (hei : excInitIn K C bmE "Exception.__new__" = true)
    (hline : (q3.endLine == q5.line) = true) (hp : p ≠ "self") (hpd : (p == ("__debug__" : Str)) = false)
    {x t0 : Addr} {v : Value} {args : Args} (hbind : bindArgs (fnX "__init__" q (iPars p p1 p2) (iBody p q1 q2 q3 q4 q5 q6 q7 q8 q9 q10) (iSc ns) [("__class__", cc)] .none kV doc pm an (.ref cda) ct) args = pure [(("self" : Str), Value.ref x), (p, v)])
    (hx : s.heap.get? x = some (xo C t0 none)) (hxK : K.lookup x = none) (hroom : A.depth < recursionLimit)
    (hq : ∀ h' tk t dx, (∀ b o, b ≠ x → s.heap.get? b = some o → h'.get? b = some o) → s.heap.objs.size ≤ dx → dx ≠ x → h'.get? x = some (xo C t (some dx)) → h'.Ns1 dx (fun y => if y = p then some v else none) →
      R (.ok (.ret .none)) { s with heap := h', toks := tk }) :
    codeAny (model prog w) A (.call (.ref fI) args) R s := by
  have lt0 : x < s.heap.objs.size := Heap.lt_size hx
  have lks : List.lookup ("self" : Str) [(("self" : Str), Value.ref x), (p, v)].reverse = some (.ref x) := by
    have e : (("self" : Str) == p) = false := by simpa using fun z => hp z.symm
    show List.lookup ("self" : Str) [(p, v), (("self" : Str), Value.ref x)] = _
    simp [List.lookup, e]
  have lkp : List.lookup p [(("self" : Str), Value.ref x), (p, v)].reverse = some v := by
    show List.lookup p [(p, v), (("self" : Str), Value.ref x)] = _
    simp [List.lookup]
  refine ks_codeAny_call_defAt (binds := [("self", .ref x), (p, v)]) hroom (X _ _ hfo) rfl hlim (codeRec_of X hcd) rfl ?_ hsc.nocell ?_ ?_ rfl rfl rfl
  · exact .of_eq hbind
  · intro y hy
    rcases List.mem_cons.mp hy with rfl | hy
    · exact hsc.self
    · rcases List.mem_cons.mp hy with rfl | hy
      · exact hsc.par
      · cases hy
  intro h1 ns1 k1
  refine ks_wpAt_execs_cons (ks_wpAt_Expr_any ?_)
  refine ks_wpAt_MethodCall (he := line_call hline rfl (by first | rfl | with_unfolding_all rfl)) ?_
  have X1 : K.In h1 := X.keeps k1
  have kx : h1.get? x = some (xo C t0 none) := k1 _ _ hx
  obtain ⟨cd, hcl⟩ := Option.isSome_iff_exists.mp hci
  obtain ⟨oC, hC1, hC2⟩ : ∃ oC, h1.get? C = some oC ∧ oC.data = .cls cd := by
    unfold clsIn at hcl
    split at hcl
    · rename_i ho
      cases hcl
      exact ⟨_, X1 _ _ ho, rfl⟩
    · cases hcl
  refine ks_wpAt_super_base hsc.sup hsc.cls (by decide) rfl (X1 _ _ hfo) rfl rfl rfl (X1 _ _ hcode) rfl hvs hfile htop ?_
  refine ks_loadName_global rfl hsc.sup (loadGlobal_builtin (hG.keeps k1) hsup (hB.keeps k1) hbs ⟨rfl, ?_⟩)
  refine wpAny_loadName_free rfl hsc.cls rfl ⟨_, X1 _ _ hcell, rfl⟩ ?_
  refine wpAny_loadName_local rfl hsc.self ns1 (v := .ref x) lks ?_
  refine ks_wpAny_isType_cls hC1 hC2 ⟨rfl, ?_⟩
  refine ks_wpAny_call_super hC1 hC2 kx rfl (fun c e => nomatch e) (looks_mroIn X1 hself) (fun h2 e2 k2 => ?_)
  have X2 : K.In h2 := X1.keeps k2
  have kx2 := k2 _ _ kx
  have xC : x ≠ C := fun z => by
    rw [← z, kx] at hC1
    cases hC1
    cases hC2
  obtain ⟨nm, N', qn, bs, bm, hdct, sn, sub, ab, col, dd, k0, k1', k2', k3', k5', hC, hT⟩ := excInit_of X2 hei
  have hI : Looks (model prog w) h2 (isInstance (.ref x) (.type "Exception")) true := (InstAt.type (C := C) (od := none) ⟨kx2, rfl, rfl, trivial⟩).andThen (looks_subIn X2 hE)
  have hsi' := hsi
  unfold ks_superIn at hsi'
  rw [hcl, Option.bind_some] at hsi'
  refine kxs_getMethod kxs_Exception e2 (looks_opaque X2 hop) (l₀ := cd.mro) (l := (cd.mro.dropWhile (· != .ref C)).drop 1) ?_ rfl X2 hsi' hI xC (by decide) ?_
  · exact fun A Q E s k q => wpAny_bind ((looks_clsIn X2 hcl) A _ E s k (wpAny_pure q))
  have k3 : ∀ b o, h2.get? b = some o → (h2.push (kxs_mw "Exception.__init__" x)).get? b = some o := fun b o e => Heap.get?_push_of_some _ e
  refine kxs_callWith (i := "Exception.__init__") (x := x) (u := h2.objs.size) rfl ?_
  refine evalArgs_plain (spliced_cons ?_)
  refine wpAny_Name (wpAny_loadName_local rfl hsc.par ((ns1.keeps k2).keeps k3) (v := v) lkp ?_) hpd
  refine spliced_nil ⟨Heap.get?_push_at rfl rfl, ?_⟩
  refine ESX.call_bw (k3 _ _ hC) (k3 _ _ kx2) (Heap.get?_push_at rfl rfl) (by show 1 ≤ sizeLine; rw [sizeLine_eq]; omega) fun h4 t1 k4 e4 => ?_
  have ns4 : h4.Ns s.heap.objs.size fun y => List.lookup y [(("self" : Str), Value.ref x), (p, v)].reverse := by
    obtain ⟨o, es, ep, ho, r⟩ := (ns1.keeps k2).keeps k3
    exact ⟨o, es, ep, k4 _ _ (Nat.ne_of_gt lt0) ho, r⟩
  have X4 : K.In h4 := fun b o e => k4 b o (fun z => by
    rw [z, hxK] at e
    cases e) (k3 _ _ (X2 _ _ e))
  refine ks_wpAt_execs_cons (ks_wpAt_Assign_Attr ?_)
  refine wpAt_of_wpAny (wpAny_Name (wpAny_loadName_local rfl hsc.par ns4 (v := v) lkp ?_) hpd)
  refine wpAny_Name (wpAny_loadName_local rfl hsc.self ns4 (v := .ref x) lks ?_)
  refine set_plain X4 (ox := xo C t1 none) (od := none) ⟨e4, rfl, rfl, trivial⟩ hsa ?_
  refine xo_store X4 e4 hov htk hh fun h5 tk5 dx k5 n5 d5 e5 ns5 => ?_
  refine wpAt_of_wpAny (wpAny_execs_nil ?_)
  refine hq h5 tk5 t1 dx (fun b o hb e => k5 b o hb (k4 b o hb (k3 _ _ (k2 _ _ (k1 _ _ e))))) ?_ d5 e5 ns5
  exact Nat.le_trans (Nat.le_of_lt ns4.lt) n5
end
end Rw

set_option Elab.async false
set_option linter.all false
set_option maxRecDepth 100000
set_option maxHeartbeats 4000000
/-! the class of such an exception called, by position or by name -/
namespace Rw
open PySem PySem.W PySem.Calls PyProof.Rows HandSPX

section
variable {prog : Program} {w : World} {A : Around} {E : Value → Shared → Prop} {R : Result → Shared → Prop} {hp : Heap} {gs : Array GenState} {dr : Drawn} {tk : Nat} {os : OsState}
variable {nm qn : Str} {C N : Addr} {bs bm bmB : List Value} {hdct : Bool} {sn : List Str} {sub : List Value} {ab : Bool} {col : Option Bool} {dd : Option Addr} {k0 k1 k2 k3 k5 : Option Value} {B newId initId : String} {rest : List Value} {kw : List (Str × Value)}

theorem kw_check (F : ExcBaseFacts B newId initId bmB) (hT : ∀ X : String, bm.contains (.type X) = bmB.contains (.type X)) {M : Model} {Q : Unit → Shared → Prop}
    (cl : hp.get? C = some (excClassObj nm qn C N bs bm hdct sn sub ab col dd k0 k1 k2 k3 k5 newId)) (q0 : Q () ⟨hp, gs, dr, tk, os⟩) : wpAny M A (checkBuiltinCall newId ⟨.ref C :: rest, kw⟩) Q E ⟨hp, gs, dr, tk, os⟩ := by
  have inB : (Value.ref C :: bm).contains (.type B) = true := by rw [List.contains_cons, hT, F.hasB, Bool.or_true]
  have nostar := F.noStar
  simp only [checkBuiltinCall, F.newKind, F.newSplit, F.newRow]
  repeat (first | refine wpAny_loadPart_at cl ?_ | (refine wpAny_isSubtype_exc cl ?_; rw [inB]) | refine wpAny_staticBase_exc cl ?_ | refine wpAny_madeBy_exc cl ?_ | simp only [bne_self_eq_false, Bool.false_eq_true, if_false] | wp_step)
  exact q0

theorem kw_new (F : ExcBaseFacts B newId initId bmB) (hT : ∀ X : String, bm.contains (.type X) = bmB.contains (.type X))
    (cl : hp.get? C = some (excClassObj nm qn C N bs bm hdct sn sub ab col dd k0 k1 k2 k3 k5 newId))
    (q0 : R (.ok (.ret (.ref (hp.objs.size + 1)))) ⟨(hp.push (kdv_tup rest)).push (xo C hp.objs.size none), gs, dr, tk, os⟩) (sz : rest.length ≤ sizeLine) :
    codeAny (model prog w) A (.builtin newId ⟨.ref C :: rest, kw⟩) R ⟨hp, gs, dr, tk, os⟩ := by
  have ends := F.ends
  have inB : (Value.ref C :: bm).contains (.type B) = true := by rw [List.contains_cons, hT, F.hasB, Bool.or_true]
  have inA : (Value.ref C :: bm).contains (.type "AttributeError") = false := by rw [List.contains_cons, hT, F.noAttr]; rfl
  have inN : (Value.ref C :: bm).contains (.type "NameError") = false := by rw [List.contains_cons, hT, F.noName]; rfl
  refine codeAny_builtinAt F.entry ?_
  unfold Builtin.«BaseException.__new__»
  refine PySem.wpAt_bind ?_
  show PySem.wpAt _ _ _ (stack >>= _) _ _ _
  refine PySem.wpAt_bind (PySem.wpAt_stack fun p below => PySem.wpAt_of_wpAny ?_)
  wp_walk
  refine PySem.wpAt_of_wpAny ?_
  rw [F.owner]
  repeat (first | with_reducible refine wpAny_madeHere_exc F.canon cl ?_ | with_reducible refine wpAny_loadPart_at cl ?_ | (with_reducible refine wpAny_isSubtype_exc cl ?_; first | rw [inB] | rw [inA] | rw [inN]) | wp_step)
  show R _ _
  rw [Heap.size_push]
  exact q0

theorem kw_type_call (F : ExcBaseFacts B newId initId bmB) (hT : ∀ X : String, bm.contains (.type X) = bmB.contains (.type X)) {fI : Addr} {Q : PySem.Fin → Shared → Prop}
    (cl : hp.get? C = some (excClassObj nm qn C N bs bm hdct sn sub ab col dd k0 k1 k2 k3 k5 newId))
    (li : Looks (model prog w) hp (typeLookup (.ref C) "__init__") (some (.ref fI))) (lb : ∀ self, Looks (model prog w) hp (bindSpecial (.ref fI) self) (.ref fI, [self])) (sz : rest.length ≤ sizeLine)
    (q0 : codeAny (model prog w) A (.call (.ref fI) ⟨.ref (hp.objs.size + 1) :: rest, kw⟩)
      (fun r s' => match r with | .ok (.ret v) => v = .none ∧ Q (.done (.ret (.ref (hp.objs.size + 1)))) s' | .ok _ => False | .error e => E e s')
      ⟨(hp.push (kdv_tup rest)).push (xo C hp.objs.size none), gs, dr, tk, os⟩) :
    wpAny (model prog w) A (Builtin.«type.__call__» ⟨.ref C :: rest, kw⟩) Q E ⟨hp, gs, dr, tk, os⟩ := by
  repeat (first | with_reducible refine wpAny_loadPart_at cl ?_ | with_reducible refine wpAny_madeBy_exc cl ?_ | wp_step)
  refine codeAny_call_builtin_code (Code.quiet_builtin _ F.quiet) (kw_check F hT cl ?_)
  refine kw_new F hT cl ?_ sz
  show wpAny _ _ _ _ _ _
  have k : ∀ b o, hp.get? b = some o → ((hp.push (kdv_tup rest)).push (xo C hp.objs.size none)).get? b = some o := fun b o e => Heap.get?_push_of_some _ (Heap.get?_push_of_some _ e)
  have cl2 := k _ _ cl
  have made : ((hp.push (kdv_tup rest)).push (xo C hp.objs.size none)).get? (hp.objs.size + 1) = some (xo C hp.objs.size none) := by heap_get
  have inC : (Value.ref C :: bm).contains (.ref C) = true := by simp
  have li2 := li.keeps k
  have lb2 := (lb (.ref (hp.objs.size + 1))).keeps k
  unfold isInstance
  repeat (first | with_reducible refine wpAny_loadPart_at made ?_ | (with_reducible refine wpAny_isSubtype_exc cl2 ?_; rw [inC]) | wp_step)
  show wpAny _ _ (typeLookup (.ref C) _) _ _ _
  refine li2.at ?_
  refine wpAny_holding (wpAny_bind (lb2.at ?_))
  refine wpAny_bind (wpAny_call (codeAny_mono q0 fun r s' z => ?_))
  rcases r with e | (v | _ | _ | _) <;> first | exact z | exact z.elim | skip
  obtain ⟨rfl, z⟩ := z
  first
    | exact wpAny_pure (wpAny_pure z)
    | (wp_walk; exact z)

theorem kw_call (F : ExcBaseFacts B newId initId bmB) (hT : ∀ X : String, bm.contains (.type X) = bmB.contains (.type X)) {fI : Addr}
    (cl : hp.get? C = some (excClassObj nm qn C N bs bm hdct sn sub ab col dd k0 k1 k2 k3 k5 newId))
    (li : Looks (model prog w) hp (typeLookup (.ref C) "__init__") (some (.ref fI))) (lb : ∀ self, Looks (model prog w) hp (bindSpecial (.ref fI) self) (.ref fI, [self])) (sz : rest.length ≤ sizeLine)
    (q0 : codeAny (model prog w) (A.under (.builtin "type.__call__" ⟨.ref C :: rest, kw⟩)) (.call (.ref fI) ⟨.ref (hp.objs.size + 1) :: rest, kw⟩) (InitBack (hp.objs.size + 1) R)
      ⟨(hp.push (kdv_tup rest)).push (xo C hp.objs.size none), gs, dr, tk, os⟩) :
    codeAny (model prog w) A (.call (.ref C) ⟨rest, kw⟩) R ⟨hp, gs, dr, tk, os⟩ := by
  have g1 := tc_lookup
  have g2 := tc_bind (.ref C)
  have isT : (⟨hp, gs, dr, tk, os⟩ : Shared).TypeIs (.ref C) "type" := ⟨_, cl, rfl⟩
  refine codeAny_of_tree ?_
  show wpAny _ _ (callAny (.ref C) _) _ _ _
  repeat (any_goals (first | assumption | with_reducible refine wpAny_loadPart_at cl ?_ | wp_step))
  refine ⟨rfl, ?_⟩
  refine codeAny_call_builtin_at (Code.quiet_builtin _ (by decide +kernel)) entry_typeCall (wpAny_check_type_call_sub cl (kw_type_call F hT cl li lb sz ?_))
  refine codeAny_mono q0 fun r s' z => ?_
  rcases r with e | (v | _ | _ | _) <;> exact z
end
end Rw

set_option Elab.async false
set_option linter.all false
set_option maxRecDepth 100000
set_option maxHeartbeats 4000000
/-! own exceptions over the layer: made as values, made to be raised, read, asked for their class -/
namespace Rw
open PySem PySem.W PySem.Calls PyProof.Rows HandSPX

/-- the class at C, called with one value u by position, or by the name p: a new exception whose one attribute p is u -/
def WxCall (P : Program) (K : Frag) (C : Addr) (p : Str) : Prop :=
  ∀ (w : World) (A : Around) (R : Result → Shared → Prop) (s : Shared) (mg mb : Str → Option Value), K.In s.heap → s.heap.NoLimit → s.heap.Ns mainGlobals mg → mg "super" = none → s.heap.Ns builtinsNs mb → mb "super" = some (.type "super") →
    ∀ (u : Value) (args : Args), args = ⟨[u], []⟩ ∨ args = ⟨[], [(p, u)]⟩ → A.depth + 1 < recursionLimit →
    (∀ h' tk e t dx, (∀ b o, s.heap.get? b = some o → h'.get? b = some o) → s.heap.objs.size ≤ e → s.heap.objs.size ≤ dx → dx ≠ e → h'.get? e = some (xo C t (some dx)) → h'.Ns1 dx (fun y => if y = p then some u else none) →
      R (.ok (.ret (.ref e))) { s with heap := h', toks := tk }) →
    codeAny (model P w) A (.call (.ref C) args) R s

theorem in_new {K : Frag} {hp : Heap} (X : K.In hp) {x : Addr} (h : hp.objs.size ≤ x) : K.lookup x = none := by
  cases e : K.lookup x with
  | none => rfl
  | some o => exact absurd (Nat.lt_of_lt_of_le (Heap.lt_size (X _ _ e)) h) (Nat.lt_irrefl _)

section
variable {P : Program} {K : Frag} {C fI cc cda : Addr} {p : Str}
  {oc ccl cl kV doc pm ct : Value} {od cdd cld : Option Addr} {osl ccs csl : Array (Option Value)} {an : Option Addr} {vs : Array Value} {file q : Str} {tf : Tok} {p1 p2 q1 q2 q3 q4 q5 q6 q7 q8 q9 q10 : Pos} {ns : List (Str × NameKind)}
theorem wx_call (hfo : K.lookup fI = some ⟨oc, od, .func (fnX "__init__" q (iPars p p1 p2) (iBody p q1 q2 q3 q4 q5 q6 q7 q8 q9 q10) (iSc ns) [("__class__", cc)] .none kV doc pm an (.ref cda) ct), osl⟩)
    (hiC : findIn K (.ref C) "__init__" = some (some (.ref fI))) (hty : typeIn K (.ref fI) = some (.type "function"))
    (hsc : IScope p ns) (hcd : codeIn K (.ref cda) q = true) (hcode : K.lookup cda = some ⟨ccl, cdd, .fields vs, ccs⟩) (hvs : vs[2]? = some (.str file tf)) (hfile : ((P.main.file : Str) == file) = true)
    (htop : (P.main.scope.names.lookup ("super" : Str)).isSome = false) (hcell : K.lookup cc = some ⟨cl, cld, .cell (some (.ref C)), csl⟩)
    (hself : mroIn K C (.ref C) = some true) (hci : (clsIn K C).isSome = true) (hop : nsIn K cStatics "thirdparty.any" = some none) (hsi : ks_superIn K C C "__init__" = some (some (.builtin "Exception.__init__"))) (hE : subIn K (.ref C) (.type "Exception") = some true)
    (hsa : findIn K (.ref C) "__setattr__" = some (some (.builtin "object.__setattr__"))) (hov : excOver K C bmE = true) (htk : takerIn K C p = some none) (hh : hasDictIn K C = true) (hei : excInitIn K C bmE "Exception.__new__" = true)
    (hline : (q3.endLine == q5.line) = true) (hp : p ≠ "self") (hpd : (p == ("__debug__" : Str)) = false)
    (hbind : ∀ a u : Value, bindArgs (fnX "__init__" q (iPars p p1 p2) (iBody p q1 q2 q3 q4 q5 q6 q7 q8 q9 q10) (iSc ns) [("__class__", cc)] .none kV doc pm an (.ref cda) ct) ⟨[a, u], []⟩ = pure [(("self" : Str), a), (p, u)])
    (hbindK : ∀ a u : Value, bindArgs (fnX "__init__" q (iPars p p1 p2) (iBody p q1 q2 q3 q4 q5 q6 q7 q8 q9 q10) (iSc ns) [("__class__", cc)] .none kV doc pm an (.ref cda) ct) ⟨[a], [(p, u)]⟩ = pure [(("self" : Str), a), (p, u)]) :
    WxCall P K C p := by
  intro w A R s mg mb X hlim hG hsup hB hbs u args hargs room hq
  obtain ⟨nm, N', qn, bs, bm, hdct, sn, sub, ab, col, dd, k0, k1, k2, k3, k5, hC, hT⟩ := excInit_of X hei
  obtain ⟨hpp, gs, dr, tk, os⟩ := s
  have main : ∀ rest kw, args = ⟨rest, kw⟩ → rest.length ≤ sizeLine →
      bindArgs (fnX "__init__" q (iPars p p1 p2) (iBody p q1 q2 q3 q4 q5 q6 q7 q8 q9 q10) (iSc ns) [("__class__", cc)] .none kV doc pm an (.ref cda) ct) ⟨.ref (hpp.objs.size + 1) :: rest, kw⟩ = pure [(("self" : Str), .ref (hpp.objs.size + 1)), (p, u)] →
      codeAny (model P w) A (.call (.ref C) ⟨rest, kw⟩) R ⟨hpp, gs, dr, tk, os⟩ := by
    intro rest kw _ sz hb
    have k : ∀ b o, hpp.get? b = some o → ((hpp.push (kdv_tup rest)).push (xo C hpp.objs.size none)).get? b = some o := fun b o e => Heap.get?_push_of_some _ (Heap.get?_push_of_some _ e)
    have made : ((hpp.push (kdv_tup rest)).push (xo C hpp.objs.size none)).get? (hpp.objs.size + 1) = some (xo C hpp.objs.size none) := by heap_get
    have up : hpp.objs.size ≤ ((hpp.push (kdv_tup rest)).push (xo C hpp.objs.size none)).objs.size := by
      rw [Heap.size_push, Heap.size_push]
      exact Nat.le_trans (Nat.le_succ _) (Nat.le_succ _)
    refine kw_call PySem.F.excBase_Exception hT hC (looks_findIn X hiC) (fun self => bind_fn X self hty) sz ?_
    refine xo_init (X.keeps k) (hlim.keeps k) (hG.keeps k) hsup (hB.keeps k) hbs hfo hsc hcd hcode hvs hfile htop hcell hself hci hop hsi hE hsa hov htk hh hei hline hp hpd hb made (in_new X (Nat.le_succ _)) ?_ ?_
    · have e : (A.under (.builtin "type.__call__" ⟨.ref C :: rest, kw⟩)).depth = A.depth + 1 := by
        first | rfl | simp [Around.under, Code.weight, Code.isCreation, Code.isGuard, Code.isCaller, Code.frames, Code.isFrame, guardIds]
      rw [e]
      exact room
    · intro h' tk' t dx k' n' d' e' ns'
      have e2 : hpp.objs.size ≤ dx := Nat.le_trans up n'
      exact ⟨rfl, hq h' tk' (hpp.objs.size + 1) t dx (fun b o e => k' b o (Nat.ne_of_lt (Nat.lt_succ_of_lt (Heap.lt_size e))) (k b o e)) (Nat.le_succ _) e2 d' e' ns'⟩
  rcases hargs with rfl | rfl
  · exact main [u] [] rfl (by show 1 ≤ sizeLine; rw [sizeLine_eq]; omega) (hbind _ _)
  · exact main [] [(p, u)] rfl (Nat.zero_le _) (hbindK _ _)
end
end Rw

set_option Elab.async false
set_option linter.all false
set_option maxRecDepth 100000
set_option maxHeartbeats 4000000
namespace Rw
open PySem PySem.Spec PyProof.Rows L2

/-- a tracked exception: the class at C, its dict at d (none: no attributes) -/
def xoO (a C : Addr) (d : Option Addr) : HO := .ext fun h => ∃ t, h.get? a = some (xo C t d)
theorem xoO_ok {P : Program} {w : World} {H : Hp} {h : Heap} {a C t : Addr} {d : Option Addr} (e : h.get? a = some (xo C t d)) : ObjOk P w H h a (xoO a C d) :=
  ⟨⟨t, e⟩, ⟨_, e⟩, fun _ _ ⟨t', q⟩ k => ⟨t', k _ q⟩⟩
theorem xoO_at {P : Program} {w : World} {H : Hp} {h : Heap} {a C : Addr} {d : Option Addr} (hok : HOk P w H h) (e : H a = some (xoO a C d)) : ∃ t, h.get? a = some (xo C t d) :=
  (show ObjOk P w H h a (.ext fun h => ∃ t, h.get? a = some (xo C t d)) from hok a _ e).1

/-- what the written part tells of an own exception class -/
structure XcC (K : PySem.W.Frag) (C : Addr) : Prop where
  ci : (PySem.W.clsIn K C).isSome = true
  ga : PySem.W.findIn K (.ref C) "__getattribute__" = some (some (.builtin "BaseException.__getattribute__"))
  gg : PySem.W.findIn K (.ref C) "__getattr__" = some none
  exC : PySem.W.subIn K (.ref C) (.type "BaseException") = some true
  hd : PySem.W.hasDictIn K C = true
  ca : PySem.W.findIn K (.ref C) "__class__" = some (some (.builtin "object.__class__"))
  ob : PySem.W.mroIn K C (.type "object") = some true
  ty : PySem.W.typeIn K (.ref C) = some (.type "type")
  kp : PySem.W.keepIn K (.ref C) = true
/-- .. with the __init__ above -/
structure WxC (P : Program) (K : PySem.W.Frag) (C : Addr) (p : Str) : Prop extends XcC K C where
  call : WxCall P K C p
  no : PySem.W.findIn K (.ref C) p = some none
/-- .. without one -/
structure WnC (K : PySem.W.Frag) (C : Addr) : Prop extends XcC K C where
  ei : PySem.W.excInitIn K C bmE "Exception.__new__" = true
  ini : PySem.W.findIn K (.ref C) "__init__" = some (some (.builtin "Exception.__init__"))
structure WxK (K : PySem.W.Frag) : Prop where
  cg : PySem.W.specialIn K (.builtin "object.__class__") "__get__" = some (some (.builtin "getset_descriptor.__get__"))
  ct : PySem.W.takesIn K (.builtin "object.__class__") = some true

section
variable {X : Cx} {pins : List (Addr × Obj)} {σ : List (Option V)} {H : Hp} {s : Shared}
/-- two new objects, both tracked from now on -/
theorem laid2 {h' : Heap} {d e : Addr} {o1 o2 : HO} {t' : Nat} (I : Inv X pins σ H s) (k : ∀ b u, s.heap.get? b = some u → h'.get? b = some u) (hd : s.heap.objs.size ≤ d) (he : s.heap.objs.size ≤ e) (ne : d ≠ e)
    (n1 : ObjOk X.prog X.w (upd (upd H d o1) e o2) h' d o1) (n2 : ObjOk X.prog X.w (upd (upd H d o1) e o2) h' e o2) : Inv X pins σ (upd (upd H d o1) e o2) { s with heap := h', toks := t' } := by
  have fd : H d = none := I.hok.fresh hd
  have fe : H e = none := I.hok.fresh he
  have at_ : ∀ {b : Addr} {o : HO}, H b = some o → upd (upd H d o1) e o2 b = some o := by
    intro b o z
    rw [upd_ne (ne_of_none z fe), upd_ne (ne_of_none z fd)]
    exact z
  have old : ∀ {b : Addr} {o : Obj}, s.heap.get? b = some o → b ≠ d ∧ b ≠ e := fun z => ⟨Nat.ne_of_lt (Nat.lt_of_lt_of_le (Heap.lt_size z) hd), Nat.ne_of_lt (Nat.lt_of_lt_of_le (Heap.lt_size z) he)⟩
  refine I.un ⟨fun b o z _ _ _ => k b o z, fun b o z _ _ _ => ⟨o.slots, k b o z⟩, fun b o z n _ => ?_, fun b o z _ => ⟨o, k b o z⟩, fun b xs z => at_ z, fun b o u z => at_ z, fun b ps z => ⟨#[], by rw [at_ z]; simp⟩⟩ ?_
  · rw [upd_ne (old z).2, upd_ne (old z).1]
    exact n
  · intro b o z
    by_cases h1 : b = e
    · subst h1
      rw [upd_same] at z
      cases z
      exact n2
    · rw [upd_ne h1] at z
      by_cases h2 : b = d
      · subst h2
        rw [upd_same] at z
        cases z
        exact n1
      · rw [upd_ne h2] at z
        exact (I.hok b o z).stay (fun c u _ q => k c u q) (fun c q => at_ q) fun c xs q => at_ q

theorem relO_one {p : Str} {v : V} {u : Value} (r : RelV v u) (f : Str) : RelO (List.lookup f [(p, v)]) (if f = p then some u else none) := by
  by_cases h : f = p
  · subst h
    rw [if_pos rfl]
    have e : List.lookup f [(f, v)] = some v := by simp [List.lookup]
    rw [e]
    exact r
  · rw [if_neg h]
    have z : (f == p) = false := by simpa using h
    have e : List.lookup f [(p, v)] = none := by simp [List.lookup, z]
    rw [e]
    trivial

/-- the class called, the raw end -/
theorem wx_run {C : Addr} {p : Str} {u : Value} {args : Args} {Q : Value → Shared → Prop} (W : WxC X.prog X.K C p) (I : Inv X pins σ H s) (gs : X.mg "super" = none) (hargs : args = ⟨[u], []⟩ ∨ args = ⟨[], [(p, u)]⟩) (room : X.A.depth + 1 < recursionLimit)
    (hq : ∀ h' tk e t dx, (∀ b o, s.heap.get? b = some o → h'.get? b = some o) → s.heap.objs.size ≤ e → s.heap.objs.size ≤ dx → dx ≠ e → h'.get? e = some (xo C t (some dx)) → h'.Ns1 dx (fun y => if y = p then some u else none) →
      Q (.ref e) { s with heap := h', toks := tk }) : wpAny (model X.prog X.w) X.A (call (.ref C) args.pos args.kw) Q X.xe s := by
  obtain ⟨mb, b1, b2⟩ := I.mod.blt
  refine wpAny_call (W.call X.w X.A _ s X.mg mb I.kIn I.nolimit (I.mod.glob.keeps I.bk) gs (b1.keeps I.bk) ((b2 _ (by decide)).trans PyProof.Rows.Boot.«super») u args hargs room ?_)
  intro h' tk e t dx k h1 h2 ne g n
  exact hq h' tk e t dx k h1 h2 ne g n

/-- C(e) as a value -/
def tMkX (C : Addr) (p : Str) (te : TE) : TE := fun σ H Q => te σ H fun v H1 => ∀ a d, H1 a = none → H1 d = none → d ≠ a → Q (.ref a) (upd (upd H1 d (.xd [(p, v)])) a (xoO a C (some d)))

section
variable {X : Cx} {C : Addr} {p x : Str} {e : Expr} {te : TE} {pn pos kpos : Pos}
theorem made_value {pins : List (Addr × Obj)} {σ : List (Option V)} {H : Hp} {s : Shared} {Q : VK} {v : V} {u : Value} {args : Args} (W : WxC X.prog X.K C p) (room : X.A.depth + 1 < recursionLimit) (gs : X.mg "super" = none)
    (hargs : args = ⟨[u], []⟩ ∨ args = ⟨[], [(p, u)]⟩) (I : Inv X pins σ H s) (r : RelV v u) (q : ∀ a d, H a = none → H d = none → d ≠ a → Q (.ref a) (upd (upd H d (.xd [(p, v)])) a (xoO a C (some d)))) :
    wpAny (model X.prog X.w) X.A (call (.ref C) args.pos args.kw) (EP X pins σ Q) X.xe s := by
  refine wx_run W I gs hargs room fun h' tk a t d k h1 h2 ne g n => ?_
  have n1 : ObjOk X.prog X.w (upd (upd H d (.xd [(p, v)])) a (xoO a C (some d))) h' d (.xd [(p, v)]) := ⟨_, n, relO_one r⟩
  exact ⟨.ref a, _, laid2 (t' := tk) I k h2 h1 ne n1 (xoO_ok g), rfl, q a d (I.hok.fresh h1) (I.hok.fresh h2) ne⟩
theorem pe_mkX (W : WxC X.prog X.K C p) (room : X.A.depth + 1 < recursionLimit) (gs : X.mg "super" = none) (hg : Gl X x) (hm : X.mg x = some (.ref C)) (he : PE X e te) (hdb : (x == ("__debug__" : Str)) = false := by decide)
    (hs : starEach [e] X.env = (false, eval e X.env) :: starEach [] X.env := by rfl) (hpl : (backTo pos (starEach [] X.env)).any (·.1) = false := by rfl) : PE X (.Call (.Name x pn) [e] [] pos) (tMkX C p te) := by
  refine ⟨fun pins s σ H Q I h => ?_⟩
  refine wpAny_Call_Name_kw (ld_glob I hg hm ?_ hdb)
  refine PySem.W.callWith_K (h₀ := X.base) I.ok.mod.kin W.kp ?_ hs hpl
  rw [hs]
  show wpAny _ _ (spliced ((false, eval e X.env) :: backTo pos (starEach [] X.env))) _ _ s
  refine Calls.spliced_cons (thn (he.run pins s σ H _ I h) fun u s1 ⟨v, H1, I1, r1, q1⟩ => ?_)
  exact Calls.spliced_nil ⟨I1.kIn, made_value (args := ⟨[u], []⟩) W room gs (.inl rfl) I1 r1 q1⟩
theorem pe_mkXK (W : WxC X.prog X.K C p) (room : X.A.depth + 1 < recursionLimit) (gs : X.mg "super" = none) (hg : Gl X x) (hm : X.mg x = some (.ref C)) (he : PE X e te) (hdb : (x == ("__debug__" : Str)) = false := by decide)
    (hpl : ((backTo pos (starEach [] X.env)).any (·.1) || (backToKw pos (keywordEach [⟨some p, e, kpos⟩] X.env)).any (·.1.isNone)) = false := by rfl) (hall : (backToKw pos (keywordEach [⟨some p, e, kpos⟩] X.env)).all (·.1.isSome) = true := by rfl)
    (hks : (backToKw pos (keywordEach [⟨some p, e, kpos⟩] X.env)).filterMap (·.1) = [p] := by rfl) : PE X (.Call (.Name x pn) [] [⟨some p, e, kpos⟩] pos) (tMkX C p te) := by
  refine ⟨fun pins s σ H Q I h => ?_⟩
  refine wpAny_Call_Name_kw (ld_glob I hg hm ?_ hdb)
  refine PySem.W.callWith_KW0 (h₀ := X.base) I.ok.mod.kin W.kp hall ?_ hpl
  have hk : PK X [⟨some p, e, kpos⟩] (tCons te tNil) := pk_cons he pk_nil
  refine thn (hk.run pos pins s σ H (fun vs H1 => match vs with
    | [v] => ∀ a d, H1 a = none → H1 d = none → d ≠ a → Q (.ref a) (upd (upd H1 d (.xd [(p, v)])) a (xoO a C (some d)))
    | _ => False) I h) fun ws s1 ⟨zs, H1, I1, rz, q1⟩ => ?_
  match zs, rz, q1 with
  | [v], rz, q1 =>
    obtain ⟨u, rfl, ru⟩ := vals1 rz
    refine ⟨I1.kIn, ?_⟩
    rw [hks]
    exact made_value (args := ⟨[], [(p, u)]⟩) W room gs (.inr rfl) I1 ru q1
  | [], _, q1 => exact q1.elim
  | _ :: _ :: _, _, q1 => exact q1.elim
end
/-- raised: C(e) makes it, its dict tracked, itself let go -/
def tMkR (C : Addr) (p : Str) (te : TE) : L2.St → Hp → XK → Prop := fun σ H Q => te σ H fun v H1 => ∀ d, H1 d = none → Q (.ref C) (some d) (upd H1 d (.xd [(p, v)]))
theorem pmk_x (W : WxC X.prog X.K C p) (room : X.A.depth + 1 < recursionLimit) (gs : X.mg "super" = none) (hg : Gl X x) (hm : X.mg x = some (.ref C)) (he : PE X e te) (hdb : (x == ("__debug__" : Str)) = false := by decide)
    (hs : starEach [e] X.env = (false, eval e X.env) :: starEach [] X.env := by rfl) (hpl : (backTo pos (starEach [] X.env)).any (·.1) = false := by rfl) : PMk X (.Call (.Name x pn) [e] [] pos) (tMkR C p te) := by
  intro pins s σ H Q I h
  refine wpAny_Call_Name_kw (ld_glob I hg hm ?_ hdb)
  refine PySem.W.callWith_K (h₀ := X.base) I.ok.mod.kin W.kp ?_ hs hpl
  rw [hs]
  show wpAny _ _ (spliced ((false, eval e X.env) :: backTo pos (starEach [] X.env))) _ _ s
  refine Calls.spliced_cons (thn (he.run pins s σ H _ I h) fun u s1 ⟨v, H1, I1, r1, q1⟩ => ?_)
  refine Calls.spliced_nil ⟨I1.kIn, ?_⟩
  refine wx_run (args := ⟨[u], []⟩) W I1 gs (.inl rfl) room fun h' tk a t d k h1 h2 ne g n => ?_
  -- the ground: all but the exception itself
  obtain ⟨G, g1, g2⟩ := restrict h' fun b => decide (b ≠ a)
  have ga : G.get? a = none := g2 a (by simp)
  have gk : ∀ b, b ≠ a → G.get? b = h'.get? b := fun b hb => g1 b (decide_eq_true hb)
  have gs' : ∀ b o, G.get? b = some o → h'.get? b = some o := fun b o z => by
    by_cases hb : b = a
    · rw [hb, ga] at z
      cases z
    · rw [← gk b hb]
      exact z
  have kG : ∀ b o, s1.heap.get? b = some o → G.get? b = some o := fun b o z => by
    rw [gk b (Nat.ne_of_lt (Nat.lt_of_lt_of_le (Heap.lt_size z) h1))]
    exact k b o z
  have nG : G.Ns1 d (fun y => if y = p then some u else none) := n.at fun o z => (gk d ne).trans z
  have n1 : ObjOk X.prog X.w (upd H1 d (.xd [(p, v)])) G d (.xd [(p, v)]) := ⟨_, nG, relO_one r1⟩
  have J : Inv X pins σ (upd H1 d (.xd [(p, v)])) { s1 with heap := G, toks := tk } := I1.laid kG h2 n1
  exact ⟨a, _, _, { s1 with heap := G, toks := tk }, _, .ref C, some d, rfl, J, gs', ga, g, ⟨rfl, rfl⟩, rfl, rfl, by rw [upd_ne (Ne.symm ne)]; exact I1.hok.fresh h1, rfl, I1.bare, raises_own W.exC W.ty, q1 d (I1.hok.fresh h2)⟩

/-- C(), a class without __init__ -/
theorem pe_mkN (W : WnC X.K C) (hg : Gl X x) (hm : X.mg x = some (.ref C)) (hdb : (x == ("__debug__" : Str)) = false := by decide) :
    PE X (.Call (.Name x pn) [] [] pos) (fun _ H Q => ∀ a, H a = none → Q (.ref a) (upd H a (xoO a C none))) := by
  refine ⟨fun pins s σ H Q I h => ?_⟩
  refine wpAny_Call_Name_kw (ld_glob I hg hm ?_ hdb)
  refine PySem.W.callWith_K0 I.kIn W.kp ?_
  obtain ⟨nm, N', qn, bs, bm, hdct, sn, sub, ab, col, dd, k0, k1, k2, k3, k5, hC, hT⟩ := PySem.W.excInit_of I.kIn W.ei
  have li : PySem.W.Looks (model X.prog X.w) s.heap (typeLookup (.ref C) "__init__") (some (.builtin "Exception.__init__")) := PySem.W.looks_findIn I.kIn W.ini
  obtain ⟨hp, gs, dr, tk, os⟩ := s
  refine PySem.W.call_B PySem.F.excBase_Exception hT hC li (Nat.zero_le _) fun h' k he ht => ?_
  have n : H (hp.objs.size + 1) = none := I.hok.fresh (Nat.le_succ _)
  exact ⟨.ref (hp.objs.size + 1), _, I.laid (t' := tk) k (Nat.le_succ _) (xoO_ok he), rfl, h _ n⟩

/-- e.f of a tracked exception -/
theorem pe_xoF (hb : attributeBase e p X.env (eval e X.env) = eval e X.env := by rfl) (he : PE X e te) :
    PE X (.Attribute e p pos) (fun σ H Q => te σ H fun v H1 => ∃ (a D d : Addr) (fs : List (Str × V)) (y : V), v = .ref a ∧ H1 a = some (xoO a D (some d)) ∧ H1 d = some (.xd fs) ∧ XcC X.K D ∧ PySem.W.findIn X.K (.ref D) p = some none ∧ fs.lookup p = some y ∧ Q y H1) := by
  refine ⟨fun pins s σ H Q I h => ?_⟩
  refine attr_of hb (thn (he.run pins s σ H _ I h) fun u s1 hh => ?_)
  obtain ⟨v, H1, I1, r1, a, D, d, fs, y, rfl, ha, hd, T, no, lk, q⟩ := hh
  cases r1
  obtain ⟨t, ho⟩ := xoO_at I1.hok ha
  obtain ⟨mA, hns, hr⟩ := (show ObjOk X.prog X.w H1 s1.heap d (.xd fs) from I1.hok d _ hd)
  obtain ⟨od, hod, hl⟩ := lookIn_ns hns
  obtain ⟨u, hu, ru⟩ := RelO.some_of (v := y) (o := mA p) (by rw [← lk]; exact hr p)
  have J : PySem.W.InstAt s1.heap a (xo D t (some d)) D (some od) := ⟨ho, rfl, rfl, hod⟩
  exact HandSPX.exc_get I1.kIn J T.ga T.gg T.exC (PySem.W.findObj_own T.hd no rfl (by rw [hl, hu])) (handed_of ru) ⟨y, H1, I1.tok _, ru, q⟩
/-- isinstance(e, c), e a tracked exception -/
def rIsX (K : PySem.W.Frag) : List V → Hp → VK → Prop := fun xs H Q => ∃ (a D : Addr) (d : Option Addr) (c : V) (cv : Value) (b : Bool), xs = [.ref a, c] ∧ H a = some (xoO a D d) ∧ (∀ dd, d = some dd → ∃ fs, H dd = some (.xd fs)) ∧ XcC K D ∧ ClsV c cv ∧ PySem.W.kitOne K (.ref D) cv = some b ∧ Q (.bl b) H
theorem call_isX (G : WxK X.K) : CallR X (.builtin "isinstance") (rIsX X.K) := by
  intro pins s σ H xs us Q I r h
  obtain ⟨a, D, d, c, cv, b, rfl, ha, hd, T, hcv, e, q⟩ := h
  obtain ⟨u1, u2, rfl, r1, r2⟩ := vals2 r
  cases r1
  have e2 := hcv.eq r2
  subst e2
  obtain ⟨t, ho⟩ := xoO_at I.hok ha
  have J : ∃ od, PySem.W.InstAt s.heap a (xo D t d) D od := by
    cases d with
    | none => exact ⟨none, ho, rfl, rfl, trivial⟩
    | some dd =>
      obtain ⟨fs, hf⟩ := hd dd rfl
      obtain ⟨mA, hns, _⟩ := (show ObjOk X.prog X.w H s.heap dd (.xd fs) from I.hok dd _ hf)
      obtain ⟨od, hod, _⟩ := lookIn_ns hns
      exact ⟨some od, ho, rfl, rfl, hod⟩
  obtain ⟨od, J⟩ := J
  exact PySem.W.kia_one (PySem.W.kitx_exc (ox := xo D t d) (od := od) T.ci T.ga T.gg T.exC T.ca G.cg G.ct T.ob) I.kIn J e (fun z => nomatch z) fun tk => ⟨.bl b, H, I.kept (t' := tk) fun _ _ z => z, rfl, q⟩
/-- isinstance(e, c), e the exception that an except suite holds -/
def rIsH (K : PySem.W.Frag) (a D : Addr) (d : Option Addr) : List V → Hp → VK → Prop := fun xs H Q => ∃ (c : V) (cv : Value) (b : Bool), xs = [.ref a, c] ∧ (∀ dd, d = some dd → ∃ fs, H dd = some (.xd fs)) ∧ ClsV c cv ∧ PySem.W.kitOne K (.ref D) cv = some b ∧ Q (.bl b) H
theorem call_isH {a D : Addr} {d : Option Addr} {oe : Obj} {pn : List (Addr × Obj)} (G : WxK X.K) (T : XcC X.K D) (hz : Zc (.ref D) d oe) (hf : ∃ vs, oe.data = .fields vs) : CallR (X.suite a ((a, oe) :: pn)) (.builtin "isinstance") (rIsH X.K a D d) := by
  intro pins s σ H xs us Q I r h
  obtain ⟨c, cv, b, rfl, hd, hcv, e, q⟩ := h
  obtain ⟨u1, u2, rfl, r1, r2⟩ := vals2 r
  cases r1
  have e2 := hcv.eq r2
  subst e2
  obtain ⟨ho, _⟩ := I.pin (a, oe) (List.mem_append.mpr (.inl List.mem_cons_self))
  obtain ⟨vs, hv⟩ := hf
  have nc : PySem.W.notCls oe = true := by unfold PySem.W.notCls; rw [hv] <;> rfl
  have J : ∃ od, PySem.W.InstAt s.heap a oe D od := by
    cases d with
    | none => exact ⟨none, ho, hz.1, nc, by rw [hz.2] <;> trivial⟩
    | some dd =>
      obtain ⟨fs, hf⟩ := hd dd rfl
      obtain ⟨mA, hns, _⟩ := (show ObjOk X.prog X.w H s.heap dd (.xd fs) from I.hok dd _ hf)
      obtain ⟨od, hod, _⟩ := lookIn_ns hns
      exact ⟨some od, ho, hz.1, nc, by rw [hz.2]; exact hod⟩
  obtain ⟨od, J⟩ := J
  exact PySem.W.kia_one (PySem.W.kitx_exc (ox := oe) (od := od) T.ci T.ga T.gg T.exC T.ca G.cg G.ct T.ob) I.kIn J e (fun z => nomatch z) fun tk => ⟨.bl b, H, I.kept (t' := tk) fun _ _ z => z, rfl, q⟩
/-- .. whatever its class: that it is D is asked -/
def rIsH2 (K : PySem.W.Frag) (a : Addr) (cls : Value) (d : Option Addr) : List V → Hp → VK → Prop := fun xs H Q => ∃ (D : Addr) (c : V) (cv : Value) (b : Bool), cls = .ref D ∧ XcC K D ∧ xs = [.ref a, c] ∧ (∀ dd, d = some dd → ∃ fs, H dd = some (.xd fs)) ∧ ClsV c cv ∧ PySem.W.kitOne K (.ref D) cv = some b ∧ Q (.bl b) H
theorem call_isH2 {a : Addr} {cls : Value} {d : Option Addr} {oe : Obj} {pn : List (Addr × Obj)} (G : WxK X.K) (hz : Zc cls d oe) (hf : ∃ vs, oe.data = .fields vs) : CallR (X.suite a ((a, oe) :: pn)) (.builtin "isinstance") (rIsH2 X.K a cls d) := by
  intro pins s σ H xs us Q I r h
  obtain ⟨D, c, cv, b, rfl, T, h⟩ := h
  exact call_isH G T hz hf pins s σ H xs us Q I r ⟨c, cv, b, h⟩
end
end Rw

set_option Elab.async false
set_option linter.all false
set_option maxRecDepth 100000
set_option maxHeartbeats 4000000
/-! the head's facts, with own exception classes that have the __init__ above -/
namespace Rw
open PySem PySem.Spec PyProof.Rows L2 PySem.W
/-- one such class: its name, its parameter, the text of its __init__ -/
structure XI where
  cls : Str
  par : Str
  qual : Str
  st : Stmt
abbrev FnI : Type := Option (Str × Str × Arguments × FuncBody × Scope × Addr × Addr)
def iAd (K : Frag) (x : Str) : Addr := He.fAd K (x, some "__init__")
def fnI (K : Frag) (x : Str) : FnI := match K.lookup (iAd K x) with
  | some ⟨_, _, .func fd, _⟩ => some (fd.name, fd.qualname, fd.params, fd.body, fd.scope, fd.globals, fd.builtins)
  | _ => none
def XI.val (d : XI) : FnI := some ("__init__", d.qual, defArgs d.st, .stmts (defBody d.st), defScope d.st, mainGlobals, builtinsNs)
def xcB (K : Frag) (C : Addr) : Bool :=
  (clsIn K C).isSome && (decide (findIn K (.ref C) "__getattribute__" = some (some (.builtin "BaseException.__getattribute__"))) && (decide (findIn K (.ref C) "__getattr__" = some none) && (decide (subIn K (.ref C) (.type "BaseException") = some true) &&
    (hasDictIn K C && (decide (findIn K (.ref C) "__class__" = some (some (.builtin "object.__class__"))) && (decide (mroIn K C (.type "object") = some true) && (decide (typeIn K (.ref C) = some (.type "type")) && keepIn K (.ref C))))))))
theorem xcB_ok {K : Frag} {C : Addr} (h : xcB K C = true) : XcC K C := by
  unfold xcB at h
  simp only [Bool.and_eq_true, decide_eq_true_eq] at h
  obtain ⟨h1, h2, h3, h4, h5, h6, h7, h8, h9⟩ := h
  exact ⟨h1, h2, h3, h4, h5, h6, h7, h8, h9⟩
def wnB (K : Frag) (C : Addr) : Bool := xcB K C && (excInitIn K C bmE "Exception.__new__" && decide (findIn K (.ref C) "__init__" = some (some (.builtin "Exception.__init__"))))
theorem wnB_ok {K : Frag} {C : Addr} (h : wnB K C = true) : WnC K C := by
  unfold wnB at h
  simp only [Bool.and_eq_true, decide_eq_true_eq] at h
  exact ⟨xcB_ok h.1, h.2.1, h.2.2⟩
def wkB (K : Frag) : Bool := decide (specialIn K (.builtin "object.__class__") "__get__" = some (some (.builtin "getset_descriptor.__get__"))) && decide (takesIn K (.builtin "object.__class__") = some true)
theorem wkB_ok {K : Frag} (h : wkB K = true) : WxK K := by
  unfold wkB at h
  simp only [Bool.and_eq_true, decide_eq_true_eq] at h
  exact ⟨h.1, h.2⟩
def filB (P : Program) : Option Value → Bool
  | some (.str file _) => (P.main.file : Str) == file
  | _ => false
/-- its function's own parts: no defaults, its code, its cell -/
def ifB (P : Program) (K : Frag) (x : Str) (q : Str) : Bool := match K.lookup (iAd K x) with
  | some ⟨_, _, .func ⟨_, _, _, _, _, _, cl, .none, _, _, _, _, .ref cda, _, _⟩, _⟩ => codeIn K (.ref cda) q && ((match K.lookup cda with
    | some ⟨_, _, .fields vs, _⟩ => filB P vs[2]?
    | _ => false) && (match cl with
    | [(n, cc)] => decide (n = "__class__") && (match K.lookup cc with
      | some ⟨_, _, .cell (some (.ref D)), _⟩ => decide (D = He.ga K x)
      | _ => false)
    | _ => false))
  | _ => false
theorem ifB_ok {P : Program} {K : Frag} {x q : Str} (h : ifB P K x q = true) : ∃ (oc : Value) (od : Option Addr) (n1 n2 : Str) (n3 : Arguments) (n4 : FuncBody) (n5 : Scope) (n6 cc : Addr) (kV doc pm : Value) (an : Option Addr) (cda : Addr) (ct : Value) (n15 : Addr) (osl : Array (Option Value)),
    K.lookup (iAd K x) = some ⟨oc, od, .func ⟨n1, n2, n3, n4, n5, n6, [("__class__", cc)], .none, kV, doc, pm, an, .ref cda, ct, n15⟩, osl⟩ ∧ codeIn K (.ref cda) q = true ∧
    (∃ (ccl : Value) (cdd : Option Addr) (vs : Array Value) (ccs : Array (Option Value)) (file : Str) (tf : Tok), K.lookup cda = some ⟨ccl, cdd, .fields vs, ccs⟩ ∧ vs[2]? = some (.str file tf) ∧ ((P.main.file : Str) == file) = true) ∧
    ∃ (cl : Value) (cld : Option Addr) (csl : Array (Option Value)), K.lookup cc = some ⟨cl, cld, .cell (some (.ref (He.ga K x))), csl⟩ := by
  unfold ifB at h
  split at h
  · rename_i oc od n1 n2 n3 n4 n5 n6 cl kV doc pm an cda ct n15 osl e
    simp only [Bool.and_eq_true] at h
    obtain ⟨h1, h2, h3⟩ := h
    split at h3
    · rename_i n cc
      simp only [Bool.and_eq_true, decide_eq_true_eq] at h3
      obtain ⟨rfl, h3⟩ := h3
      split at h3
      · rename_i cl cld D csl ec
        have eD : D = He.ga K x := of_decide_eq_true h3
        subst eD
        split at h2
        · rename_i ccl cdd vs ccs ek
          unfold filB at h2
          split at h2
          · rename_i file tf ev
            exact ⟨oc, od, n1, n2, n3, n4, n5, n6, cc, kV, doc, pm, an, cda, ct, n15, osl, e, h1, ⟨ccl, cdd, vs, ccs, file, tf, ek, ev, h2⟩, cl, cld, csl, ec⟩
          · cases h2
        · cases h2
      · cases h3
    · cases h3
  · cases h
def xiB (P : Program) (K : Frag) (x p q : Str) : Bool :=
  xcB K (He.ga K x) && (ifB P K x q && (decide (findIn K (.ref (He.ga K x)) "__init__" = some (some (.ref (iAd K x)))) && (decide (typeIn K (.ref (iAd K x)) = some (.type "function")) && (!(P.main.scope.names.lookup ("super" : Str)).isSome &&
    (decide (mroIn K (He.ga K x) (.ref (He.ga K x)) = some true) && (decide (nsIn K cStatics "thirdparty.any" = some none) && (decide (ks_superIn K (He.ga K x) (He.ga K x) "__init__" = some (some (.builtin "Exception.__init__"))) && (decide (subIn K (.ref (He.ga K x)) (.type "Exception") = some true) &&
      (decide (findIn K (.ref (He.ga K x)) "__setattr__" = some (some (.builtin "object.__setattr__"))) && (excOver K (He.ga K x) bmE && (decide (takerIn K (He.ga K x) p = some none) && (excInitIn K (He.ga K x) bmE "Exception.__new__" && decide (findIn K (.ref (He.ga K x)) p = some none)))))))))))))
/-- such a text -/
structure XiT (p : Str) (st : Stmt) : Prop where
  ex : ∃ (p1 p2 q1 q2 q3 q4 q5 q6 q7 q8 q9 q10 : Pos) (ns : List (Str × NameKind)), defArgs st = iPars p p1 p2 ∧ defBody st = iBody p q1 q2 q3 q4 q5 q6 q7 q8 q9 q10 ∧ defScope st = iSc ns ∧ IScope p ns ∧ (q3.endLine == q5.line) = true ∧
    (∀ (q : Str) (cc : Addr) (kV doc pm : Value) (an : Option Addr) (cda : Addr) (ct a u : Value), bindArgs (fnX "__init__" q (iPars p p1 p2) (iBody p q1 q2 q3 q4 q5 q6 q7 q8 q9 q10) (iSc ns) [("__class__", cc)] .none kV doc pm an (.ref cda) ct) ⟨[a, u], []⟩ = pure [(("self" : Str), a), (p, u)] ∧
      bindArgs (fnX "__init__" q (iPars p p1 p2) (iBody p q1 q2 q3 q4 q5 q6 q7 q8 q9 q10) (iSc ns) [("__class__", cc)] .none kV doc pm an (.ref cda) ct) ⟨[a], [(p, u)]⟩ = pure [(("self" : Str), a), (p, u)])
theorem wx_of {P : Program} {K : Frag} {x p q : Str} {st : Stmt} (T : XiT p st) (e : fnI K x = (XI.mk x p q st).val) (b : xiB P K x p q = true) (hp : p ≠ "self") (hpd : (p == ("__debug__" : Str)) = false) : WxC P K (He.ga K x) p := by
  unfold xiB at b
  simp only [Bool.and_eq_true, decide_eq_true_eq, Bool.not_eq_true'] at b
  obtain ⟨b1, b2, b3, b4, b5, b6, b7, b8, b9, b10, b11, b12, b13, b14⟩ := b
  obtain ⟨oc, od, n1, n2, n3, n4, n5, n6, cc, kV, doc, pm, an, cda, ct, n15, osl, l, hcd, ⟨ccl, cdd, vs, ccs, file, tf, hk, hv, hf⟩, cl, cld, csl, hc⟩ := ifB_ok b2
  unfold fnI at e
  rw [l] at e
  have e2 : (some (n1, n2, n3, n4, n5, n6, n15) : FnI) = (some (("__init__" : Str), q, defArgs st, FuncBody.stmts (defBody st), defScope st, mainGlobals, builtinsNs) : FnI) := e
  simp only [Option.some.injEq, Prod.mk.injEq] at e2
  obtain ⟨rfl, rfl, rfl, rfl, rfl, rfl, rfl⟩ := e2
  obtain ⟨p1, p2, q1, q2, q3, q4, q5, q6, q7, q8, q9, q10, ns, h1, h2, h3, hs, hl, hb⟩ := T.ex
  rw [h1, h2, h3] at l
  refine ⟨xcB_ok b1, wx_call l b3 b4 hs hcd hk hv hf b5 hc b6 (xcB_ok b1).ci b7 b8 b9 b10 b11 b12 (xcB_ok b1).hd b13 hl hp hpd (fun a u => (hb _ cc kV doc pm an cda ct a u).1) (fun a u => (hb _ cc kV doc pm an cda ct a u).2), b14⟩

/-! ### the Hook -/
abbrev AlX : Type := Bool × List He.FnW × List FnI
def obsX (n : Nat) (fa : List He.Fa) (fn : List He.DefD) (xi : List XI) (ex : Frag → Bool) (g : Addr → Option Obj) : AlX :=
  (((fa.all fun f => f.ok (frR n g)) && fn.all fun d => d.ok (frR n g)) && ex (frR n g), fn.map (fun d => He.fnW (frR n g) d.at_), xi.map fun d => fnI (frR n g) d.cls)
structure SaysX (fa : List He.Fa) (fn : List He.DefD) (xi : List XI) (ex : Frag → Bool) (K : Frag) : Prop where
  base : He.SaysD fa fn K
  more : ex K = true
  inits : xi.map (fun d => fnI K d.cls) = xi.map XI.val
def hookX (n : Nat) (fa : List He.Fa) (fn : List He.DefD) (xi : List XI) (ex : Frag → Bool) : Hook where
  α := AlX
  obs := fun s => obsX n fa fn xi ex s.heap.get?
  val := fun _ => (true, fn.map He.DefD.val, xi.map XI.val)
  says := fun _ h => ∃ K : Frag, K.In h ∧ SaysX fa fn xi ex K
  of := fun _ s e => by
    have e1 : (((fa.all fun f => f.ok (frR n s.heap.get?)) && fn.all fun d => d.ok (frR n s.heap.get?)) && ex (frR n s.heap.get?)) = true := congrArg (fun z : AlX => z.1) e
    have e2 : (fn.map fun d => He.fnW (frR n s.heap.get?) d.at_) = fn.map He.DefD.val := congrArg (fun z : AlX => z.2.1) e
    have e3 : (xi.map fun d => fnI (frR n s.heap.get?) d.cls) = xi.map XI.val := congrArg (fun z : AlX => z.2.2) e
    obtain ⟨h1, h2⟩ := He.ba e1
    exact ⟨frR n s.heap.get?, He.frG_in, ⟨Prod.ext h1 e2, h2, e3⟩⟩
  keeps := fun _ _ _ ⟨K, hK, c⟩ k => ⟨K, Frag.In.keeps hK k, c⟩
def obX (n : Nat) (fa : List He.Fa) (fn : List He.DefD) (xi : List XI) (ex : Frag → Bool) (s : SharedT) : AlX := obsX n fa fn xi ex (HandSHeadRun.getT s)
theorem obX_eq (n : Nat) (fa : List He.Fa) (fn : List He.DefD) (xi : List XI) (ex : Frag → Bool) (s : SharedT) : obX n fa fn xi ex s = (hookX n fa fn xi ex).obs s.abs := by
  have e : HandSHeadRun.getT s = s.abs.heap.get? := funext (HandSHeadRun.getT_eq s)
  show obsX n fa fn xi ex (HandSHeadRun.getT s) = obsX n fa fn xi ex s.abs.heap.get?
  rw [e]
theorem SaysX.init {fa : List He.Fa} {fn : List He.DefD} {xi : List XI} {ex : Frag → Bool} {K : Frag} (c : SaysX fa fn xi ex K) (i : Nat) {d : XI} (h : xi[i]? = some d := by rfl) : fnI K d.cls = d.val := by
  have e2 : (xi.map fun d => fnI K d.cls)[i]? = (xi.map XI.val)[i]? := by rw [c.inits]
  rw [List.getElem?_map, List.getElem?_map, h] at e2
  exact Option.some.inj e2
end Rw


set_option Elab.async false
set_option linter.all false
set_option maxRecDepth 100000
set_option maxHeartbeats 4000000
/-! sets of keys of any kind, so that they can be walked: what add keeps -/
namespace Rw
open PySem PySem.Spec PyProof.Rows L2
section
variable {P : Program} {w : World} {K : Type} [DecidableEq K]
/-- two entries, two keys -/
def Apart (knd : KeyKind P w K) (l : List (Int × Value)) : Prop := l.Pairwise fun e f => ∀ k, knd.is k e.2 = true → knd.is k f.2 = false
/-- the set at a: its members S, n of them; it can be walked -/
structure Sk (knd : KeyKind P w K) (h : Heap) (a : Addr) (S : K → Bool) (n : Nat) : Prop where
  ex : ∃ (ob : Obj) (rows : Array (Int × Value)) (age : Nat) (tb : SetTable), h.get? a = some ob ∧ ob.ExactSet ∧ ob.data = .set rows age tb ∧ ElemsOf knd rows.toList ∧ Apart knd rows.toList ∧
    (∀ k, S k = true ↔ ∃ e ∈ rows.toList, knd.is k e.2 = true) ∧ rows.size < scanBound ∧ tb.fits rows.size = true ∧ rows.size = n ∧ Ris tb.place.toList ∧ (w.params.followText "set-order" = true ∨ tb.led = true)
variable {knd : KeyKind P w K} {A : Around} {E : Value → Shared → Prop} {s : Shared} {a : Addr} {S : K → Bool} {n : Nat}
theorem Sk.stay {h h' : Heap} (R : Sk knd h a S n) (k : ∀ o, h.get? a = some o → h'.get? a = some o) : Sk knd h' a S n := by
  obtain ⟨ob, rows, age, tb, e, r⟩ := R.ex
  exact ⟨ob, rows, age, tb, k _ e, r⟩
theorem Sk.same {h : Heap} {S' : K → Bool} {n' : Nat} (R : Sk knd h a S n) (e : ∀ k, S' k = S k) (en : n' = n) : Sk knd h a S' n' := by
  have : S' = S := funext e
  subst this en
  exact R
theorem Apart.perm {l l' : List (Int × Value)} (h : Apart knd l) (hp : l'.Perm l) : Apart knd l' := by
  refine (List.Perm.pairwise_iff (fun {x y} hxy k hk => ?_) hp).mpr h
  cases e : knd.is k x.2 with
  | false => rfl
  | true => rw [hxy k e] at hk; cases hk
/-- one stored, the table laid anew where it grew too full -/
theorem sk_tail {note : Bool → Sem Unit} (quiet : ∀ (b : Bool) (z : Shared) (W : Unit → Shared → Prop), W () z → wpAny (model P w) A (note b) W E z)
    {ob : Obj} {rows : Array (Int × Value)} {age : Nat} {tb : SetTable} (at_ : s.heap.get? a = some ob) (exact_ : ob.ExactSet) (data_ : ob.data = .set rows age tb)
    {rows1 : Array (Int × Value)} {tb1 : SetTable} {S1 : K → Bool} (el : ElemsOf knd rows1.toList) (ap : Apart knd rows1.toList) (me : ∀ k, S1 k = true ↔ ∃ e ∈ rows1.toList, knd.is k e.2 = true)
    (few : rows1.size < scanBound) (fit : tb1.fits rows1.size = true) (ris : Ris tb1.place.toList) (ord : w.params.followText "set-order" = true ∨ tb1.led = true) {dum : Bool} {W : Option Bool → Shared → Prop}
    (hW : ∀ h1, Heap.SameBut a s.heap h1 → Sk knd h1 a S1 rows1.size → W (some true) { s with heap := h1 }) :
    wpAny (model P w) A (do
        storeSet a rows1 tb1
        if (!dum && tb1.tooFull) = true then do
            note (relayAll tb1 rows1 (SetTable.grown rows1.size)).2.2
            storeSet a (relayAll tb1 rows1 (SetTable.grown rows1.size)).1 (relayAll tb1 rows1 (SetTable.grown rows1.size)).2.1
            pure (some true)
          else pure (some true)) W E s := by
  have st1 := store_at (es' := rows1) (t' := tb1) at_ data_
  have sm1 := Heap.SameBut.update s.heap a (Obj.putSet rows1 tb1)
  refine wpAny_bind (wpAny_storeSet_of at_ data_ ?_ (fits_of_scanBound few))
  cases hfull : (!dum && tb1.tooFull) with
  | false =>
    rw [if_neg Bool.false_ne_true]
    exact wpAny_pure (hW _ sm1 ⟨_, rows1, _, tb1, st1, exact_, rfl, el, ap, me, few, fit, rfl, ris, ord⟩)
  | true =>
    rw [if_pos rfl]
    have q1 := relayAll_perm tb1 rows1 (SetTable.grown rows1.size)
    have q2 := relayAll_fits tb1 rows1 (SetTable.grown rows1.size)
    have q3 := relayAll_ris tb1 rows1 (SetTable.grown rows1.size)
    have q4 := relayAll_led tb1 rows1 (SetTable.grown rows1.size)
    generalize relayAll tb1 rows1 (SetTable.grown rows1.size) = laid at q1 q2 q3 q4 ⊢
    obtain ⟨rows2, tb2, gv⟩ := laid
    dsimp only at q1 q2 q3 q4 ⊢
    have sz : rows2.size = rows1.size := by
      have := q1.length_eq
      rwa [Array.length_toList, Array.length_toList] at this
    have st2 := store_at (es' := rows2) (t' := tb2) st1 rfl
    refine wpAny_bind (quiet _ _ _ (wpAny_bind (wpAny_storeSet_of st1 rfl ?_ (fits_of_scanBound (sz ▸ few)))))
    refine wpAny_pure (hW _ (sm1.trans (Heap.SameBut.update _ a _)) ⟨_, rows2, _, tb2, st2, exact_, rfl, el.perm q1, ap.perm q1, fun k => (me k).trans ?_, sz ▸ few, q2, sz, q3, ?_⟩)
    · exact ⟨fun ⟨e, h1, h2⟩ => ⟨e, q1.mem_iff.mpr h1, h2⟩, fun ⟨e, h1, h2⟩ => ⟨e, q1.mem_iff.mp h1, h2⟩⟩
    · exact ord.imp id fun z => q4.trans z
/-- a key is added -/
theorem sk_add {k : K} {x : Value} {W : Bool → Shared → Prop} (hk : knd.is k x = true) (hx : x.scannable = true) (R : Sk knd s.heap a S n) (room : n + 1 < scanBound)
    (hW : ∀ h1, Heap.SameBut a s.heap h1 → Sk knd h1 a (fun j => S j || decide (j = k)) (if S k = true then n else n + 1) → W (!S k) { s with heap := h1 }) :
    wpAny (model P w) A (setAddHashed a x (knd.hash k)) W E s := by
  obtain ⟨ob, rows, age, tb, at_, exact_, data_, el, ap, me, few, fit, cnt, ris, ord⟩ := R.ex
  unfold setAddHashed setAddHashedIn
  refine wpAny_holding (wpAny_bind (wpAny_setState_of at_ data_ fit ?_))
  dsimp only
  rw [byScan_of hx few el, if_pos rfl]
  unfold setAddByScan
  refine wpAny_bind (wpAny_bind (wpAny_rule (wpAny_bind (wpAny_setScan_of hk at_ data_ fit el ?_))))
  cases met : List.findIdx? (fun e => knd.is k e.2) rows.toList with
  | some j =>
    obtain ⟨j1, j2, _⟩ := List.findIdx?_eq_some_iff_getElem.mp met
    have old : S k = true := (me k).mpr ⟨_, List.getElem_mem j1, j2⟩
    have z := hW s.heap (Heap.SameBut.refl a s.heap) (R.same (fun i => by
      by_cases e : i = k
      · subst e; simp [old]
      · simp [e]) (by rw [if_pos old]))
    rw [old] at z
    exact wpAny_pure (wpAny_pure z)
  | none =>
    have out : ∀ e ∈ rows.toList, knd.is k e.2 = false := fun e he => by
      have := List.findIdx?_eq_none_iff.mp met e he
      simpa using this
    have new : S k = false := by
      cases q : S k with
      | false => rfl
      | true =>
        obtain ⟨e, h1, h2⟩ := (me k).mp q
        rw [out e h1] at h2
        cases h2
    have warn : ∀ (b : Bool) (z : Shared) (W' : Unit → Shared → Prop), W' () z → wpAny (model P w) A (match b with | true => rule "set.scan.the-table-gave-way" | false => pure ()) W' E z := by
      intro b z W' hz
      cases b
      · exact wpAny_pure hz
      · exact wpAny_rule hz
    dsimp only
    have q1 := layNew_perm tb rows (knd.hash k) x
    have q2 := layNew_fits tb rows (knd.hash k) x
    have q3 := layNew_ris tb rows (knd.hash k) x ris
    have q4 := layNew_led tb rows (knd.hash k) x
    generalize layNew tb rows (knd.hash k) x = laid at q1 q2 q3 q4 ⊢
    obtain ⟨rows1, tb1, dum, gv⟩ := laid
    dsimp only at q1 q2 q3 q4 ⊢
    rw [Array.toList_push] at q1
    have el1 : ElemsOf knd rows1.toList := (el.push hk hx).perm q1
    have ap0 : Apart knd (rows.toList ++ [(knd.hash k, x)]) := by
      refine List.pairwise_append.mpr ⟨ap, List.pairwise_singleton _ _, fun e he f hf j hj => ?_⟩
      rw [List.mem_singleton.mp hf]
      cases q : knd.is j x with
      | false => rfl
      | true =>
        have := knd.inj x j k q hk
        subst this
        rw [out e he] at hj
        cases hj
    have ap1 := ap0.perm q1
    have me1 : ∀ j, (S j || decide (j = k)) = true ↔ ∃ e ∈ rows1.toList, knd.is j e.2 = true := mem_push_iff hk me q1
    have cnt1 : rows1.size = n + 1 := by
      have := q1.length_eq
      rwa [Array.length_toList, List.length_append, Array.length_toList, cnt] at this
    have few1 : rows1.size < scanBound := cnt1 ▸ room
    have ord1 : w.params.followText "set-order" = true ∨ tb1.led = true := ord.imp id fun z => q4.trans z
    have fin : ∀ h1, Heap.SameBut a s.heap h1 → Sk knd h1 a (fun j => S j || decide (j = k)) rows1.size → W true { s with heap := h1 } := fun h1 sb r => by
      have z := hW h1 sb (r.same (fun _ => rfl) (by rw [new, if_neg Bool.false_ne_true, cnt1]))
      rw [new] at z
      exact z
    refine wpAny_bind (warn _ _ _ ?_)
    split
    · refine wpAny_bind ?_
      rw [hashByValue_scannable 8 hx]
      refine wpAny_pure (sk_tail warn at_ exact_ data_ el1 ap1 me1 few1 ?_ ?_ ?_ fun h1 sb r => wpAny_pure (fin h1 sb r))
      · split
        · exact q2
        · exact SetTable.fits_plain_off q2
      · split <;> exact q3
      · split <;> exact ord1
    · refine wpAny_bind (wpAny_pure ?_)
      rw [if_pos rfl]
      exact sk_tail warn at_ exact_ data_ el1 ap1 me1 few1 q2 q3 ord1 fun h1 sb r => wpAny_pure (fin h1 sb r)
end
end Rw

set_option Elab.async false
set_option linter.all false
set_option maxRecDepth 100000
set_option maxHeartbeats 4000000
namespace Rw
open PySem PySem.Spec PyProof.Rows L2
section
variable {P : Program} {w : World} {K : Type} [DecidableEq K] {knd : KeyKind P w K} {A : Around}
/-- one walk puts all its keys into the set at D -/
theorem sk_loop {I : Addr} {fp wr : List Addr} {G : Array GenState → Array GenState → Prop} {m : Nat} {Pv : Nat → Value → Prop} {St : Nat → Shared → Prop} {R : Result → Shared → Prop}
    (W : WalksS P w A.in1 I fp wr G m Pv St) (D : Addr) (hD : D ∉ fp) (ks : List K) (hm : m = ks.length) (room : ks.length + 1 < scanBound) (val : ∀ i v, Pv i v → ∃ k, ks[i]? = some k ∧ knd.is k v = true ∧ v.scannable = true) :
    ∀ (j i : Nat) (s : Shared), m - i = j → i ≤ m → St i s → (∃ c, c ≤ i ∧ Sk knd s.heap D (fun k => decide (k ∈ ks.take i)) c) →
      (∀ s1 c, Moved (D :: wr) G s s1 → c ≤ m → Sk knd s1.heap D (fun k => decide (k ∈ ks)) c → R (.ok (.ret .none)) s1) →
      codeAny (model P w) A (.builtin "set.update.loop" ⟨[.ref D, .ref I], []⟩) R s := by
  have notIn : D ∉ wr := fun z => hD (W.sub _ z)
  have more : ∀ b ∈ wr, b ∈ D :: wr := fun b hb => List.mem_cons_of_mem _ hb
  intro j
  induction j with
  | zero =>
    rintro i s hj hi st ⟨c, hc, hS⟩ hR
    obtain rfl : i = m := by omega
    refine codeAny_builtin PyProof.Rows.F.entry_set_update_loop ?_
    rw [Around.under_plainId (PyProof.Rows.F.plain_set_update_loop) _]
    refine (show wpAny _ A.in1 (pyNext (.ref I) >>= _) _ _ s from wpAny_bind (W.done s _ _ st fun s1 mv => ?_))
    have all : ks.take i = ks := List.take_of_length_le (by omega)
    rw [all] at hS
    exact (show wpAny _ A.in1 (ret Value.none) _ _ s1 from wpAny_pure (hR s1 c (mv.mono more) hc (hS.stay fun o e => mv.heap D o notIn e)))
  | succ j ih =>
    rintro i s hj hi st ⟨c, hc, hS⟩ hR
    have lt : i < m := by omega
    refine codeAny_builtin PyProof.Rows.F.entry_set_update_loop ?_
    rw [Around.under_plainId (PyProof.Rows.F.plain_set_update_loop) _]
    refine (show wpAny _ A.in1 (pyNext (.ref I) >>= _) _ _ s from wpAny_bind (W.item i s _ _ lt st fun v s1 pv st1 mv => ?_))
    obtain ⟨k, e1, e2, e3⟩ := val i v pv
    have hS1 := hS.stay (h' := s1.heap) fun o e => mv.heap D o notIn e
    refine (show wpAny _ A.in1 (holding [v] (setAdd D v) >>= _) _ _ s1 from wpAny_bind (wpAny_holding ?_))
    unfold setAdd
    refine wpAny_holding (wpAny_bind (knd.pyHash (k := k) e2 ?_))
    refine sk_add (s := { s1 with toks := s1.toks + 1 }) e2 e3 hS1 (by omega) fun h1 sb hS2 => ?_
    have cnt : (if decide (k ∈ ks.take i) = true then c else c + 1) ≤ i + 1 := by split <;> omega
    have hS3 : Sk knd h1 D (fun k' => decide (k' ∈ ks.take (i + 1))) (if decide (k ∈ ks.take i) = true then c else c + 1) := hS2.same (fun k' => by
      rw [List.take_add_one, e1]
      simp [List.mem_append]) rfl
    have own : ∀ b, b ∈ fp → b ≠ D := fun b hb z => hD (z ▸ hb)
    refine wpAny_pure ⟨plainId_quiet (PyProof.Rows.F.plain_set_update_loop) _, ih (i + 1) _ (by omega) lt (W.frame _ s1 _ _ st1 (Nat.le_succ _) fun b hb o e => (sb.2 b (own b hb)).trans e) ⟨_, cnt, hS3⟩ fun s2 c2 mv2 hc2 hS4 => ?_⟩
    refine hR s2 c2 (Moved.trans W.gtrans ((mv.mono more).then_heap (Nat.le_succ _) fun b o hb e => ?_) mv2) hc2 hS4
    exact (sb.2 b fun z => hb (z ▸ List.mem_cons_self)).trans e
end
section
variable {P : Program} {w : World} {A : Around} {E : Value → Shared → Prop} {s : Shared}
/-- the empty set, just laid -/
abbrev set0 (w : World) : Obj := { cls := .type "set", dict := none, data := .set #[] 0 (.fresh 0 0 (!w.params.followText "set-order")) }
theorem sk_empty {K : Type} [DecidableEq K] {knd : KeyKind P w K} {h : Heap} {a : Addr} (e : h.get? a = some (set0 w)) : Sk knd h a (fun k => decide (k ∈ ([] : List K))) 0 := by
  refine ⟨_, #[], 0, _, e, ⟨rfl, rfl, rfl⟩, rfl, ?_, List.Pairwise.nil, ?_, (by decide), rfl, rfl, List.Pairwise.nil, ?_⟩
  · intro e he
    cases he
  · intro k
    simp
  · show _ ∨ (!w.params.followText "set-order") = true
    cases w.params.followText "set-order" <;> simp
set_option maxHeartbeats 8000000 in
/-- set(x), x a text -/
theorem call_set_text {x : Str} {t : Tok} {Q : Value → Shared → Prop} (hh : A.handled = none) (room : x.length + 1 < scanBound)
    (h : ∀ (h1 : Heap) (tk c : Nat), Sk (PySem.strKind P w) h1 s.heap.objs.size (fun k => decide (k ∈ signs x)) c → c ≤ x.length → (∀ b o, s.heap.get? b = some o → h1.get? b = some o) → Q (.ref s.heap.objs.size) { s with heap := h1, toks := tk }) :
    wpAny (model P w) A (call (.type "set") [.str x t]) Q E s := by
  obtain ⟨c, tl, hmro⟩ := PySem.F.called_set.mro
  have k1 := PySem.F.called_set.made
  have k2 := PySem.F.called_set.sub
  refine wpAny_call (codeAny_of_tree (show wpAny _ _ (callAny (.type "set") _) _ _ _ from ?_))
  refine wpAny_pure ⟨Code.quiet_builtin _ (by decide +kernel), (codeAny_builtin PySem.F.entry_type_call ?_)⟩
  rw [Around.under_plain (weight_type_call_type "set" [Value.str x t] []) rfl]
  have k3 := PySem.F.called_set.notType
  have k4 := PySem.F.called_set.canCreate
  have k5 := PySem.F.typeCall_set_1 (.str x t)
  repeat (any_goals (first | assumption | wp_step))
  refine codeAny_mono (code_set_led1 (Value.str x t) (E := E) (Q₁ := fun v z => v = .ref s.heap.objs.size ∧ z = { s with heap := s.heap.push (set0 w) }) ⟨rfl, rfl⟩) fun r z hr => ?_
  match r, hr with
  | .error e, hr => exact hr
  | .ok .next, hr => exact hr.elim
  | .ok .brk, hr => exact hr.elim
  | .ok .cont, hr => exact hr.elim
  | .ok (.ret v), ⟨e1, e2⟩ =>
    subst e1 e2
    have at0 : (s.heap.push (set0 w)).get? s.heap.objs.size = some (set0 w) := Heap.get?_push_size _ rfl
    have ty0 : Shared.TypeIs { s with heap := s.heap.push (set0 w) } (.ref s.heap.objs.size) "set" := ⟨_, at0, rfl⟩
    have k6 := PySem.F.called_set.init.lookup
    have k7 := PySem.F.called_set.init.bind (.ref s.heap.objs.size)
    repeat (any_goals (first | assumption | wp_step))
    refine codeAny_mono (codeAny_call_builtin (R := wants (fun r z => r = .none ∧ ∃ h1 tk c, z = { s with heap := h1, toks := tk } ∧ Sk (PySem.strKind P w) h1 s.heap.objs.size (fun k => decide (k ∈ signs x)) c ∧ c ≤ x.length ∧
      ∀ b o, s.heap.get? b = some o → h1.get? b = some o) E) PySem.F.called_set.init.plain PySem.F.entry_set_init (check_set_init_1 ty0 ?_)) fun r z hr => ?_
    · have k8 := PySem.F.sub_str_set
      have k9 := PySem.F.sub_str_frozenset
      have ka : (Value.type "str" == Value.type "dict") = false := by decide
      have lt0 : s.heap.objs.size < (s.heap.push (set0 w)).objs.size := by rw [Heap.size_push]; exact Nat.lt_succ_self _
      generalize eH : s.heap.push (set0 w) = H0 at at0 ty0 lt0 ⊢
      unfold Builtin.«set.__init__» noKeywords Builtin.Frozenset.updateFrom
      generalize eP : pyIter = walkOf
      wp_walk
      subst eP
      have ln : x.cps.size = (signs x).length := (signs_length x).symm
      refine wpAny_pyIter_str fun o St W hst => ?_
      refine wpAny_bind (wpAny_runValue ?_)
      have hd : A.in1.in1.in1.handled = none := by simp [hh]
      have apart : s.heap.objs.size ∉ [H0.objs.size] := fun z => Nat.lt_irrefl _ ((List.mem_singleton.mp z) ▸ lt0)
      refine sk_loop (knd := PySem.strKind P w) ((W A.in1.in1.in1 hd).toS) s.heap.objs.size apart (signs x) ln (by rw [signs_length]; exact room) (fun i v ⟨cp, u, h1, h2⟩ => ⟨⟨#[cp]⟩, ?_, ?_, ?_⟩) _ 0 _ rfl (Nat.zero_le _) hst ⟨0, Nat.le_refl _, ?_⟩ fun s1 c1 mv hc hS => ?_
      · unfold signs
        rw [List.getElem?_map, Array.getElem?_toList, h1]
        rfl
      · rw [h2]
        exact strKind_is _ _ _ _
      · rw [h2]
        rfl
      · exact sk_empty (Heap.get?_push_of_some _ at0)
      · obtain ⟨h1, g1, d1, tk1, o1⟩ := s1
        obtain rfl : g1 = s.gens := mv.gens
        obtain rfl : d1 = s.drawn := mv.drawn
        obtain rfl : o1 = s.os := mv.os
        refine (show wpAny _ _ (pure ()) _ _ _ from wpAny_pure (show wpAny _ _ (ret Value.none) _ _ _ from wpAny_pure ⟨rfl, h1, tk1, c1, rfl, hS, hc, fun b o e => ?_⟩))
        have lb := Heap.lt_size e
        have e0 : H0.get? b = some o := eH ▸ Heap.get?_push_of_some _ e
        refine mv.heap b o (fun z => ?_) (Heap.get?_push_of_some _ e0)
        rcases List.mem_cons.mp z with z | z
        · exact Nat.lt_irrefl _ (z ▸ lb)
        · exact Nat.lt_asymm lt0 ((List.mem_singleton.mp z) ▸ lb)
    · match r, hr with
      | .error e, hr => exact hr
      | .ok .next, hr => exact hr.elim
      | .ok .brk, hr => exact hr.elim
      | .ok .cont, hr => exact hr.elim
      | .ok (.ret v), ⟨e1, h1, tk, c', e2, hS, hc, keep⟩ =>
        subst e1 e2
        repeat (any_goals (first | assumption | wp_step))
        exact h _ _ _ hS hc keep
end
end Rw

set_option Elab.async false
set_option linter.all false
set_option maxRecDepth 100000
set_option maxHeartbeats 4000000
/-! sorted(a set of texts); both over the layer -/
namespace Rw
open PySem PySem.Spec PyProof.Rows L2
section
variable {P : Program} {w : World} {A : Around} {E : Value → Shared → Prop} {s : Shared} {a : Addr} {S : Str → Bool} {n : Nat}
theorem text_of {knd : KeyKind P w Str} (hk : knd = PySem.strKind P w) {rows : List (Int × Value)} (el : ElemsOf knd rows) : ∀ e ∈ rows, ∃ t, e.2 = .str (strOf e.2) t := by
  subst hk
  intro e he
  obtain ⟨⟨k, h1, _⟩, _⟩ := el e he
  obtain ⟨t, h2⟩ := Value.isStrOf_shape (show Value.isStrOf k e.2 = true from h1)
  exact ⟨t, by rw [h2] <;> rfl⟩
theorem sorted_texts {Q : Value → Shared → Prop} (R : Sk (PySem.strKind P w) s.heap a S n) (hh : A.handled = none) (few : n < 64)
    (hQ : ∀ s1 p (out : Array Value) (c : Nat) (ys : List Str), (∀ b o, s.heap.get? b = some o → s1.heap.get? b = some o) → s1.gens = s.gens → s1.os = s.os → s.heap.objs.size ≤ p →
      s1.heap.get? p = some (seqObj "list" out c) → StrsAre out.toList ys → sortedS ys = true → ys.Nodup → (∀ k, k ∈ ys ↔ S k = true) → ys.length = n → Q (.ref p) s1) :
    wpAny (model P w) A (call (.builtin "sorted") [.ref a]) Q E s := by
  obtain ⟨ob, rows, age, tb, at_, exact_, data_, el, ap, me, small, fit, cnt, ris, ord⟩ := R.ex
  have tx := text_of rfl el
  refine Calls.call_function_entry kind_sorted plain_sorted entry_sorted (args_sorted1 (Value.ref a)) ?_
  unfold Builtin.«sorted»
  refine wpAny_bind (m := checkCount "sorted" 1 1 _) (wpAny_pure (wpAny_bind (collect_set (A := A.in1) hh ⟨ob, at_, exact_.1, data_⟩ fit small ris ord fun s1 vs keep up gs os pm => ?_)))
  have lv : vs.length = n := by rw [pm.length_eq, List.length_map, Array.length_toList, cnt]
  have hS : StrsAre vs (vs.map strOf) := strsAre_map vs fun v hv => by
    obtain ⟨e, he, q⟩ := List.mem_map.mp (pm.mem_iff.mp hv)
    obtain ⟨t, ht⟩ := tx e he
    exact ⟨_, t, by rw [← q]; exact ht⟩
  have pk : (vs.map strOf).Perm (rows.toList.map fun e => strOf e.2) := by
    have q := pm.map strOf
    rw [List.map_map] at q
    exact q
  have nd : (rows.toList.map fun e => strOf e.2).Nodup := by
    unfold List.Nodup
    rw [List.pairwise_map]
    refine List.Pairwise.imp_of_mem (fun {e f} he hf q z => ?_) ap
    obtain ⟨t, ht⟩ := tx e he
    obtain ⟨u, hu⟩ := tx f hf
    have q1 : (PySem.strKind P w).is (strOf e.2) e.2 = true := by
      rw [ht]
      exact strKind_is _ _ _ _
    have q2 := q _ q1
    rw [z, hu] at q2
    rw [show (PySem.strKind P w).is (strOf (Value.str (strOf f.2) u)) (Value.str (strOf f.2) u) = true from strKind_is _ _ _ _] at q2
    cases q2
  have mem : ∀ k, k ∈ (rows.toList.map fun e => strOf e.2) ↔ S k = true := fun k => by
    rw [me k, List.mem_map]
    constructor
    · rintro ⟨e, he, rfl⟩
      obtain ⟨t, ht⟩ := tx e he
      refine ⟨e, he, ?_⟩
      have : (PySem.strKind P w).is (strOf e.2) (Value.str (strOf e.2) t) = true := strKind_is _ _ _ _
      rwa [← ht] at this
    · rintro ⟨e, he, q⟩
      obtain ⟨t, h2⟩ := Value.isStrOf_shape (show Value.isStrOf k e.2 = true from q)
      exact ⟨e, he, by rw [h2] <;> rfl⟩
  refine wpAny_bind (wpAny_newList ?_ (by rw [lv, sizeLine_eq]; omega))
  have at1 : (s1.heap.push (seqObj "list" vs.toArray 0)).get? s1.heap.objs.size = some (seqObj "list" vs.toArray 0) := Heap.get?_push_size _ rfl
  refine wpAny_bind (wpAny_holding (wpAny_call_entry slot_list_sort ⟨_, at1, rfl⟩ entry_list_sort (list_sort_treeKAny strKind_oneLt at1 hS.keysOf (fun v1 v2 rest e => keyKind_strs (by rw [← e]; exact hS)) (by rw [lv, sizeLine_eq]; omega)
    fun st hp hs => ⟨_, rfl, ?_⟩) (args_list_sort _)))
  obtain ⟨ys, y1, y2, y3⟩ := sorted_out_str hS hp hs
  obtain ⟨c, hc⟩ := sortedHeap_at (vs := vs) (out := (arrOf st).map (·.2)) at1
  have py := y2.trans pk
  refine wpAny_pure ⟨_, rfl, hQ _ s1.heap.objs.size _ c ys (fun b u e => ?_) gs os up hc y1 y3 (py.nodup_iff.mpr nd) (fun k => (py.mem_iff).trans (mem k)) (by rw [py.length_eq, List.length_map, Array.length_toList, cnt])⟩
  have q := keep b u e
  have lt := Heap.lt_size q
  show (sortedHeap _ s1.heap.objs.size vs _).get? b = some u
  rw [sortedHeap_old (Nat.ne_of_lt lt) (by rw [size_push']; exact Nat.lt_succ_of_lt lt)]
  exact Heap.get?_push_of_some _ q
end
/-- a tracked set of texts -/
def SetS (P : Program) (w : World) (a : Addr) (S : Str → Bool) (n : Nat) : HO := .ext fun h => Sk (PySem.strKind P w) h a S n
theorem setS_ok {P : Program} {w : World} {H : Hp} {h : Heap} {a : Addr} {S : Str → Bool} {n : Nat} (R : Sk (PySem.strKind P w) h a S n) : ObjOk P w H h a (SetS P w a S n) := by
  obtain ⟨ob, _, _, _, e, _⟩ := R.ex
  exact ⟨R, ⟨_, e⟩, fun _ _ q k => Sk.stay q fun o e => k o e⟩
section
variable {X : Cx}
def rSetText (P : Program) (w : World) : List V → Hp → VK → Prop := fun xs H Q => ∃ x : Str, xs = [.str x] ∧ x.length ≤ 60 ∧ ∀ a c, H a = none → c ≤ x.length → Q (.ref a) (upd H a (SetS P w a (fun k => decide (k ∈ signs x)) c))
theorem cr_setText (hc : X.calm = true) : CallR X (.type "set") (rSetText X.prog X.w) := by
  intro pins s σ H xs us Q I r h
  obtain ⟨x, rfl, hl, q⟩ := h
  obtain ⟨u, rfl, t, rfl⟩ := vals1 r
  refine call_set_text (I.ok.hd hc) (by unfold scanBound; omega) fun h1 tk c hS hc' keep => ?_
  have fr : H s.heap.objs.size = none := I.hok.fresh (Nat.le_refl _)
  exact ⟨.ref _, _, I.laid (t' := tk) keep (Nat.le_refl _) (setS_ok hS), rfl, q _ c fr hc'⟩
def rSortedText (P : Program) (w : World) : List V → Hp → VK → Prop := fun xs H Q => ∃ (a : Addr) (S : Str → Bool) (n : Nat), xs = [.ref a] ∧ H a = some (SetS P w a S n) ∧ n < 64 ∧
  ∀ (ys : List Str) (p : Addr), sortedS ys = true → ys.Nodup → (∀ k, k ∈ ys ↔ S k = true) → ys.length = n → H p = none → Q (.ref p) (upd H p (.lst (ys.map V.str)))
theorem cr_sortedText (hc : X.calm = true) : CallR X (.builtin "sorted") (rSortedText X.prog X.w) := by
  intro pins s σ H xs us Q I r h
  obtain ⟨a, S, n, rfl, ha, few, q⟩ := h
  obtain ⟨u, rfl, ru⟩ := vals1 r
  cases ru
  have R : Sk (PySem.strKind X.prog X.w) s.heap a S n := (show ObjOk X.prog X.w H s.heap a (.ext fun h => Sk (PySem.strKind X.prog X.w) h a S n) from I.hok a _ ha).1
  refine sorted_texts R (I.ok.hd hc) few fun s1 p out c ys keep gs os up at_ st y1 y2 y3 y4 => ?_
  have fr : H p = none := I.hok.fresh up
  have len : (ys.map V.str).length ≤ sizeLine := by rw [List.length_map, y4, sizeLine_eq]; omega
  refine ⟨.ref p, upd H p (.lst (ys.map V.str)), ?_, rfl, q ys p y1 y2 y3 y4 fr⟩
  have J : Inv X pins σ (upd H p (.lst (ys.map V.str))) { s with heap := s1.heap, gens := s1.gens, drawn := s1.drawn, toks := s1.toks } :=
    I.call (ch := []) (Un.laid keep up fr) (I.hok.laid keep up ⟨len, out.toList, c, vals_of_strs st, at_⟩) (by rw [gs]; exact I.bare) (fun _ z => nomatch z)
  have e : s1 = { s with heap := s1.heap, gens := s1.gens, drawn := s1.drawn, toks := s1.toks } := by
    cases s1
    cases os
    rfl
  rw [e]
  exact J
end
end Rw

set_option Elab.async false
set_option linter.all false
set_option maxRecDepth 100000
set_option maxHeartbeats 4000000
/-! rules for data of any kind -/
namespace Rw
open PySem PySem.Spec PyProof.Rows L2
/-- the class of such data -/
def tyD : PyData → String
  | .none => "NoneType"
  | .bool _ => "bool"
  | .int _ => "int"
  | .str _ => "str"
  | .list _ => "list"
  | .tuple _ => "tuple"
  | .dict _ => "dict"
theorem ty_of {K : PySem.W.Frag} {H : Hp} {ok : Addr → Prop} {v : V} {d : PyData} (h : Dq H ok v d) : TyX K H v (.type (tyD d)) := by
  cases h with
  | non => exact .base .non
  | bl b => exact .base (.bl b)
  | int i => exact .base (.int i)
  | str x => exact .base (.str x)
  | lst _ e _ => exact .base (.lst e)
  | tup _ e _ => exact .base (.tup e)
  | dic _ e _ _ => exact .base (.dK e)
/-- is it an int (a bool is one), a bool, a text, a tuple -/
def kInt : PyData → Bool
  | .int _ => true
  | .bool _ => true
  | _ => false
def kBool : PyData → Bool
  | .bool _ => true
  | _ => false
def kStr : PyData → Bool
  | .str _ => true
  | _ => false
def kTup : PyData → Bool
  | .tuple _ => true
  | _ => false
theorem kit_int (K : PySem.W.Frag) (d : PyData) : PySem.W.kitOne K (.type (tyD d)) (.type "int") = some (kInt d) := by cases d <;> (dsimp only [tyD, kInt]; kernel_rfl)
theorem kit_bool (K : PySem.W.Frag) (d : PyData) : PySem.W.kitOne K (.type (tyD d)) (.type "bool") = some (kBool d) := by cases d <;> (dsimp only [tyD, kBool]; kernel_rfl)
theorem kit_str (K : PySem.W.Frag) (d : PyData) : PySem.W.kitOne K (.type (tyD d)) (.type "str") = some (kStr d) := by cases d <;> (dsimp only [tyD, kStr]; kernel_rfl)
theorem kit_tup (K : PySem.W.Frag) (d : PyData) : PySem.W.kitOne K (.type (tyD d)) (.type "tuple") = some (kTup d) := by cases d <;> (dsimp only [tyD, kTup]; kernel_rfl)
/-- isinstance(x, T): what is asked of x as data -/
theorem isi_int {K : PySem.W.Frag} {H : Hp} {ok : Addr → Prop} {v : V} {d : PyData} {Q : VK} (h : Dq H ok v d) (q : Q (.bl (kInt d)) H) : rIsi K [v, .ty "int"] H Q := ⟨v, _, _, _, _, rfl, .ty _, ty_of h, kit_int K d, q⟩
theorem isi_bool {K : PySem.W.Frag} {H : Hp} {ok : Addr → Prop} {v : V} {d : PyData} {Q : VK} (h : Dq H ok v d) (q : Q (.bl (kBool d)) H) : rIsi K [v, .ty "bool"] H Q := ⟨v, _, _, _, _, rfl, .ty _, ty_of h, kit_bool K d, q⟩
theorem isi_str {K : PySem.W.Frag} {H : Hp} {ok : Addr → Prop} {v : V} {d : PyData} {Q : VK} (h : Dq H ok v d) (q : Q (.bl (kStr d)) H) : rIsi K [v, .ty "str"] H Q := ⟨v, _, _, _, _, rfl, .ty _, ty_of h, kit_str K d, q⟩
theorem isi_tup {K : PySem.W.Frag} {H : Hp} {ok : Addr → Prop} {v : V} {d : PyData} {Q : VK} (h : Dq H ok v d) (q : Q (.bl (kTup d)) H) : rIsi K [v, .ty "tuple"] H Q := ⟨v, _, _, _, _, rfl, .ty _, ty_of h, kit_tup K d, q⟩
section
variable {X : Cx}
/-- t == (): t any tuple -/
def rEqT0 (K : PySem.W.Frag) : R2 := fun x y H Q => ∃ a b xs, x = .ref a ∧ y = .ref b ∧ SqT K H a xs ∧ SqT K H b [] ∧ Q (.bl xs.isEmpty) H
theorem op_eqT0 (hu : X.A.units < cLine) : OpR X (compareOp .Eq) (rEqT0 X.K) := by
  intro pins s σ H x y v u Q I rx ry h
  obtain ⟨a, b, xs, rfl, rfl, ha, hb, q⟩ := h
  cases rx
  cases ry
  obtain ⟨its, r, pl, _⟩ := I.tuple ha
  obtain ⟨its2, r2, pl2, _⟩ := I.tuple hb
  have e2 : its2 = [] := by
    cases r2
    rfl
  subst e2
  refine SeqAt.eq_tupleAt (e := fun _ => true) pl pl2 hu (fun j _ h2 => absurd h2 (Nat.not_lt_zero j)) ⟨.bl xs.isEmpty, H, I, ?_, q⟩
  have l := r.length
  show Value.bool _ = Value.bool _
  congr 1
  cases xs with
  | nil =>
    cases r
    rfl
  | cons y ys =>
    cases r
    rfl
/-- list(s), s a text -/
def rListText : List V → Hp → VK → Prop := fun xs H Q => ∃ x : Str, xs = [.str x] ∧ x.length ≤ sizeLine ∧ ∀ p, H p = none → Q (.ref p) (upd H p (.lst ((signs x).map V.str)))
theorem vals_ix : ∀ {vs : List V} {us : List Value}, vs.length = us.length → (∀ (i : Nat) v u, vs[i]? = some v → us[i]? = some u → RelV v u) → Vals vs us
  | [], [], _, _ => .nil
  | [], _ :: _, h, _ => by cases h
  | _ :: _, [], h, _ => by cases h
  | v :: vs, u :: us, h, f => .cons (f 0 v u rfl rfl) (vals_ix (Nat.succ.inj h) fun i a b h1 h2 => f (i + 1) a b h1 h2)
theorem signs_of {x : Str} {acc : Array Value} (h : ItemsOf (SignAt x) acc x.cps.size) : Vals ((signs x).map V.str) acc.toList := by
  refine vals_ix ?_ fun i v u h1 h2 => ?_
  · rw [List.length_map, signs_length, Array.length_toList, h.1]
    rfl
  · rw [Array.getElem?_toList] at h2
    obtain ⟨c, t, h3, h4⟩ := h.2 i u h2
    unfold signs at h1
    rw [List.getElem?_map, List.getElem?_map, Array.getElem?_toList, h3] at h1
    cases h1
    exact ⟨t, h4⟩
theorem call_listText (hc : X.calm = true) : CallR X (.type "list") rListText := by
  intro pins s σ H xs us Q I r h
  obtain ⟨x, rfl, hl, q⟩ := h
  obtain ⟨u, rfl, t, rfl⟩ := vals1 r
  refine call_list_str (hn := hl) (I.ok.hd hc) x t fun h1 tk acc c keep at_ its => ?_
  have fr : H s.heap.objs.size = none := I.hok.fresh (Nat.le_refl _)
  refine ⟨.ref _, _, I.laid (t' := tk) (o := .lst ((signs x).map V.str)) keep (Nat.le_refl _) ⟨?_, acc.toList, c, signs_of its, at_⟩, rfl, q _ fr⟩
  rw [List.length_map, signs_length]
  exact hl
end
end Rw

set_option Elab.async false
set_option linter.all false
set_option maxRecDepth 100000
set_option maxHeartbeats 4000000
/-! t[::-1], s[::-1] -/
namespace Rw
open PySem PySem.Spec PyProof.Rows L2
section
variable {prog : Program} {w : World} {A : Around} {E : Value → Shared → Prop} {s : Shared}
theorem back_bounds (n : Nat) : Builtin.Slice.sliceAdjust none none (-1) (n : Int) = ((n : Int) - 1, -1) := by
  unfold Builtin.Slice.sliceAdjust
  simp
theorem back_places (n : Nat) : Builtin.Slice.slicePlaces ((n : Int) - 1) (-1) (-1) = n := by
  unfold Builtin.Slice.slicePlaces
  have h1 : ¬ ((-1 : Int) > 0) := by decide
  have h2 : (- -1 : Int) = 1 := by decide
  rw [if_neg h1, h2, Int.ediv_one]
  split <;> omega
theorem fm_congr {α β : Type} {f g : α → Option β} : ∀ {l : List α}, (∀ a ∈ l, f a = g a) → l.filterMap f = l.filterMap g
  | [], _ => rfl
  | a :: r, h => by rw [List.filterMap_cons, List.filterMap_cons, h a (by simp), fm_congr fun b hb => h b (by simp [hb])]
theorem back_items (xs : Array Value) : ((List.range xs.size).filterMap fun (k : Nat) => xs[(((xs.size : Int) - 1) + (k : Int) * (-1)).toNat]?).toArray = xs.toList.reverse.toArray := by
  congr 1
  have e : ((List.range xs.size).filterMap fun (k : Nat) => xs[(((xs.size : Int) - 1) + (k : Int) * (-1)).toNat]?) = ((List.range xs.size).map fun k => xs.size - 1 - k).filterMap (xs[·]?) := by
    rw [List.filterMap_map]
    refine fm_congr fun k hk => ?_
    have := List.mem_range.mp hk
    have q : (((xs.size : Int) - 1) + (k : Int) * (-1)).toNat = xs.size - 1 - k := by omega
    show xs[_]? = xs[xs.size - 1 - k]?
    rw [q]
  rw [e, PySem.W.krv_range, List.filterMap_reverse, PySem.W.krv_all]
theorem applied_back {sl : Addr} {u : Tok} {n : Nat} {Q : Int × Int × Nat → Shared → Prop} (hs : s.heap.IsSliceOf sl .none .none (.int (-1) u)) (h : Q ((n : Int) - 1, -1, n) s) :
    wpAny (model prog w) A (Builtin.Slice.sliceApplied (.ref sl) (pure (n : Int))) Q E s := by
  obtain ⟨ob, at_, cl, dt⟩ := id hs
  unfold Builtin.Slice.sliceApplied Builtin.Slice.sliceFields
  refine wpAny_bind (wpAny_bind (wpAny_field at_ dt (x := .none) rfl (wpAny_bind (wpAny_field at_ dt (x := .none) rfl (wpAny_bind (wpAny_field at_ dt (x := .int (-1) u) rfl (wpAny_pure (wpAny_bind (slicePart_int ?_)))))))))
  refine (show wpAny _ _ (if ((-1 : Int) == 0) = true then _ else _) _ _ s from ?_)
  rw [if_neg (by decide)]
  refine wpAny_bind (slicePart_none (wpAny_bind (slicePart_none (wpAny_bind (wpAny_pure ?_)))))
  refine (show wpAny _ _ (match Builtin.Slice.sliceAdjust none none (-1) (n : Int) with | (lo, hi) => pure (lo, (-1 : Int), Builtin.Slice.slicePlaces lo hi (-1))) _ _ s from ?_)
  rw [back_bounds n]
  refine (show wpAny _ _ (pure ((n : Int) - 1, (-1 : Int), Builtin.Slice.slicePlaces ((n : Int) - 1) (-1) (-1))) _ _ s from ?_)
  rw [back_places]
  exact wpAny_pure h
theorem tuple_back {t sl : Addr} {items : Array Value} {u : Tok} {Q : Value → Shared → Prop} (ht : IsTup s.heap t items) (hs : s.heap.IsSliceOf sl .none .none (.int (-1) u)) (hsz : items.size ≤ sizeLine)
    (h : Q (.ref s.heap.objs.size) { s with heap := s.heap.push { cls := .type "tuple", data := .seq items.toList.reverse.toArray } }) : wpAny (model prog w) A (getItem (.ref t) (.ref sl)) Q E s := by
  have fit : sizeOk (.seq items.toList.reverse.toArray) := by
    show items.toList.reverse.toArray.size ≤ sizeLine
    rw [List.size_toArray, List.length_reverse, Array.length_toList]
    exact hsz
  obtain ⟨ob, at_, cl, dt⟩ := id hs
  have ty : s.TypeIs (.ref sl) "slice" := ⟨ob, at_, cl⟩
  unfold getItem
  try with_reducible refine wpAny_holding ?_
  first | refine wpAny_bind (wpAny_pure ?_) | skip
  refine wpAny_bind (wpAny_sequenceKey ht.typeIs (by decide) (wpAny_bind (wpAny_callSpecial?_slot (name := Str.ofString "__getitem__") ht.typeIs PyProof.Rows.slot_tuple_getitem
    (wpAny_call_entry PyProof.Rows.slot_tuple_getitem ht.typeIs entry_tuple_getitem ?_ (args_tuple_getitem _ _)))))
  refine (show wpAny _ _ (Builtin.Tuple.tupleItemsOf (.ref t) >>= _) _ _ s from wpAny_bind (tupleItemsOf_ ht (wpAny_bind (wpAny_typeOf ty ?_))))
  rw [if_pos (by decide)]
  refine wpAny_bind (applied_back hs ?_)
  refine (show wpAny _ _ (if (((items.size : Int) - 1) == 0 && (-1 : Int) == 1 && items.size == items.size) = true then _ else _) _ _ s from ?_)
  rw [if_neg (by simp), back_items]
  first
    | exact wpAny_bind (m := Builtin.Tuple.tupleExact _) (wpAny_newObj_type (wpAny_pure ⟨_, rfl, wpAny_pure h⟩) fit)
    | exact wpAny_bind (m := Builtin.Tuple.tupleExact _) (wpAny_newObj_type (wpAny_bind (wpAny_pure (wpAny_pure ⟨_, rfl, wpAny_pure h⟩))) fit)
    | exact wpAny_bind (wpAny_bind (m := Builtin.Tuple.tupleExact _) (wpAny_newObj_type (wpAny_pure (wpAny_pure ⟨_, rfl, wpAny_pure h⟩)) fit))
    | exact wpAny_bind (wpAny_bind (m := Builtin.Tuple.tupleExact _) (wpAny_newObj_type (wpAny_pure ⟨_, rfl, wpAny_pure h⟩) fit))
end
section
variable {X : Cx} {e : Expr} {te : TE} {k : Nat} {p1 p2 p3 pos : Pos}
/-- what [::-1] lays: a slice -/
theorem back_slice {pins : List (Addr × Obj)} {σ : List (Option V)} {H : Hp} {s : Shared} {Q : Value → Shared → Prop} {o : Value} (I : Inv X pins σ H s)
    (h : ∀ (s1 : Shared) (u : Tok), Inv X pins σ H { s1 with heap := s1.heap.push { cls := .type "slice", data := .fields #[.none, .none, .int (-1) u] } } →
      wpAny (model X.prog X.w) X.A (subscriptTail e (.Slice none none (some (.UnaryOp .USub (.Constant (.int 1) k p1) p2)) p3) o (.ref s1.heap.objs.size)) Q X.xe { s1 with heap := s1.heap.push { cls := .type "slice", data := .fields #[.none, .none, .int (-1) u] } }) :
    wpAny (model X.prog X.w) X.A (eval (.Slice none none (some (.UnaryOp .USub (.Constant (.int 1) k p1) p2)) p3) X.env) (fun i s2 => wpAny (model X.prog X.w) X.A (subscriptTail e (.Slice none none (some (.UnaryOp .USub (.Constant (.int 1) k p1) p2)) p3) o i) Q X.xe s2) X.xe s := by
  have st : PO X (some (.UnaryOp .USub (.Constant (.int 1) k p1) p2)) (tPart (tUn (rU fun i => .int (-i)) (tC (.int 1)))) := po_some (pe_un un_neg pe_int)
  refine wpAny_Slice (thn (po_none.run pins s σ H (fun o H2 => o = none ∧ H2 = H) I ⟨rfl, rfl⟩) fun vl s2 ⟨l, H2, I2, pl, el, e2⟩ => ?_)
  subst el e2
  refine thn (po_none.run pins s2 σ H2 (fun o H3 => o = none ∧ H3 = H2) I2 ⟨rfl, rfl⟩) fun vu s3 ⟨u, H3, I3, pu, eu, e3⟩ => ?_
  subst eu e3
  refine thn (st.run pins s3 σ H3 (fun o H4 => o = some (-1) ∧ H4 = H3) I3 ⟨1, rfl, -1, rfl, rfl, rfl⟩) fun vs s4 ⟨o, H4, I4, ps, eo, e4⟩ => ?_
  subst eo e4
  cases pl
  cases pu
  cases ps with
  | int i t => exact h s4 t (I4.kept (t' := s4.toks) fun b ob q => Heap.get?_push_of_some _ q)
def tRevT (K : PySem.W.Frag) (te : TE) : TE := fun σ H Q => te σ H fun x H1 => ∃ a xs, x = .ref a ∧ SqT K H1 a xs ∧ ∀ p, H1 p = none → Q (.ref p) (upd H1 p (.tup xs.reverse))
theorem pe_revT (he : PE X e te) : PE X (.Subscript e (.Slice none none (some (.UnaryOp .USub (.Constant (.int 1) k p1) p2)) p3) pos) (tRevT X.K te) := by
  refine ⟨fun pins s σ H Q I h => Subscript_ (thn (he.run pins s σ H _ I h) fun v s1 ⟨x, H1, I1, r1, a, xs, ex, hx, q⟩ => ?_)⟩
  subst ex
  cases r1
  refine back_slice I1 fun s2 u I2 => ?_
  obtain ⟨its, r, ht, hz⟩ := I2.tuple hx
  have ln := r.length
  refine tail_any (ops := [.ref a, .ref s2.heap.objs.size]) ht.typeIs (PyProof.Rows.slot_tuple_getitem.lookup) ?_ (by with_unfolding_all rfl)
  refine tuple_back ht (Heap.IsSliceOf.new _ .none .none (.int (-1) u)) (by rw [List.size_toArray]; omega) ?_
  refine ⟨.ref _, _, I2.laid (t' := s2.toks) (o := .tup xs.reverse) (fun b ob q => Heap.get?_push_of_some _ q) (Nat.le_refl _) ?_, rfl, q _ (I2.hok.fresh (Nat.le_refl _))⟩
  exact ⟨by rw [List.length_reverse]; exact hz, _, r.reverse, IsTup.new _ _⟩
/-- a text's signs from behind -/
def revS (z : Str) : Str := ⟨((Builtin.Str.strSliceIndices none none (-1) z.length).filterMap (z.cps[·]?)).toArray⟩
theorem revS_len (z : Str) : (revS z).length ≤ z.length := by
  show (((Builtin.Str.strSliceIndices none none (-1) z.length).filterMap (z.cps[·]?)).toArray).size ≤ z.length
  rw [List.size_toArray]
  refine Nat.le_trans (List.length_filterMap_le _ _) ?_
  rw [picked_rev, List.length_map, List.length_range]
  exact Nat.le_refl _
def tRevS (te : TE) : TE := fun σ H Q => te σ H fun x H1 => ∃ z, x = .str z ∧ z.length ≤ sizeLine ∧ Q (.str (revS z)) H1
theorem pe_revS (he : PE X e te) : PE X (.Subscript e (.Slice none none (some (.UnaryOp .USub (.Constant (.int 1) k p1) p2)) p3) pos) (tRevS te) := by
  refine ⟨fun pins s σ H Q I h => Subscript_ (thn (he.run pins s σ H _ I h) fun v s1 ⟨x, H1, I1, r1, z, ex, hz, q⟩ => ?_)⟩
  subst ex
  obtain ⟨t, rfl⟩ := r1
  refine back_slice I1 fun s2 u I2 => ?_
  refine tail_any (ops := [.str z t, .ref s2.heap.objs.size]) (typeIs_str _ _ _) (PySem.F.slot_str_getitem.lookup) ?_ (by with_unfolding_all rfl)
  refine wpAny_getItem_str_slice (l := none) (u := none) (st := some (-1, u)) (Heap.IsSliceOf.new _ .none .none (.int (-1) u)) rfl ?_
  show Made.post (if ((-1 : Int) == 1 && (Builtin.Str.strSliceIndices none none (-1) z.length).length == z.length) = true then Made.val (.str z t) else Made.str (revS z)) _ _
  rw [if_neg (by simp)]
  exact ⟨Nat.le_trans (revS_len z) hz, .str _, H1, I2.tok _, ⟨_, rfl⟩, q⟩
end
end Rw

set_option Elab.async false
set_option linter.all false
set_option maxRecDepth 100000
set_option maxHeartbeats 4000000
/-! small lemmas that every law wants -/
namespace Rw
open PySem PySem.Spec PyProof.Rows L2
theorem p_app {α β : Type} {F : α → β → Prop} : ∀ {a : List α} {b : List β} {c : List α} {d : List β}, Paired F a b → Paired F c d → Paired F (a ++ c) (b ++ d)
  | _, _, _, _, .nil, q => q
  | _, _, _, _, .cons r t, q => .cons r (p_app t q)
theorem p_at {α β : Type} {F : α → β → Prop} : ∀ {a : List α} {b : List β} {i : Nat} {x : α}, Paired F a b → a[i]? = some x → ∃ y, b[i]? = some y ∧ F x y
  | _, _, 0, _, .cons r t, h => by cases h; exact ⟨_, rfl, r⟩
  | _, _, i + 1, _, .cons r t, h => p_at (i := i) t h
theorem p_len {α β : Type} {F : α → β → Prop} : ∀ {a : List α} {b : List β}, Paired F a b → a.length = b.length
  | _, _, .nil => rfl
  | _, _, .cons r t => by simp [p_len t]
theorem pg_tupK {X : Cx} {K : PySem.W.Frag} {es : List Expr} {k : Nat} {t : TGs} {n : Nat} {pos : Pos} (hK : X.K = K) (hc : X.calm = true) (h : PGs X es t)
    (hn : (assignEach es X.env).length = n := by rfl) (hst : (assignEach es X.env).findIdx? (·.1) = none := by rfl) : PG X (.Tuple es k pos) (gTup K n t) := by
  subst hK
  exact pg_tup hc h hn hst
theorem rel_ref (a : Addr) : RelV (.ref a) (.ref a) := rfl
def txts : List Str → TA
  | [] => tNil
  | x :: t => tCons (tC (.str x)) (txts t)
theorem strs_read {σ : L2.St} {H : Hp} : ∀ {xs : List Str} {Q : List V → Hp → Prop}, Q (xs.map V.str) H → txts xs σ H Q
  | [], _, h => h
  | x :: t, Q, h => strs_read (xs := t) (Q := fun vs H' => Q (.str x :: vs) H') h
theorem inV_strs {w : Str} : ∀ {xs : List Str}, inV (.str w) (xs.map V.str) = decide (w ∈ xs)
  | [] => rfl
  | x :: t => by
    have ih := inV_strs (w := w) (xs := t)
    show (eqV (.str x) (.str w) || inV (.str w) (t.map V.str)) = _
    rw [ih]
    show ((x == w) || decide (w ∈ t)) = _
    by_cases h : w = x
    · simp [h]
    · have h' : ¬ x = w := fun z => h z.symm
      simp [h, h']
theorem same_new {H : Hp} {p : Addr} {o : HO} (h : H p = none) : Same H (upd H p o) := fun b u z => by rw [upd_ne (ne_of_none z h)]; exact z
theorem cb1 {r : List V → Hp → VK → Prop} {t : TE} {σ : L2.St} {H : Hp} {Q : VK} (h : t σ H fun y H1 => r [y] H1 Q) : tCB r (tCons t tNil) σ H Q := h
theorem yes_read {σ : L2.St} {H : Hp} {Q : Bool → Hp → Prop} (h : Q true H) : tYes σ H Q := h
theorem str_eq {x y : Str} : (V.str x = V.str y) = (x = y) := by simp
end Rw

set_option Elab.async false
set_option linter.all false
set_option maxRecDepth 100000
set_option maxHeartbeats 4000000
/-! any list, any tuple beside an empty one -/
namespace Rw
open PySem PySem.Spec PyProof.Rows L2
def rEqL0 (K : PySem.W.Frag) : R2 := fun x y H Q => ∃ a b xs, x = .ref a ∧ y = .ref b ∧ SqL K H a xs ∧ SqL K H b [] ∧ Q (.bl xs.isEmpty) H
def rNeL0 (K : PySem.W.Frag) : R2 := fun x y H Q => ∃ a b xs, x = .ref a ∧ y = .ref b ∧ SqL K H a xs ∧ SqL K H b [] ∧ Q (.bl (!xs.isEmpty)) H
def rNeT0 (K : PySem.W.Frag) : R2 := fun x y H Q => ∃ a b xs, x = .ref a ∧ y = .ref b ∧ SqT K H a xs ∧ SqT K H b [] ∧ Q (.bl (!xs.isEmpty)) H
section
variable {X : Cx}
theorem op_neL0 (hu : X.A.units < cLine) : OpR X (compareOp .NotEq) (rNeL0 X.K) := by
  intro pins s σ H x y v u Q I rx ry h
  obtain ⟨a, b, xs, rfl, rfl, ha, hb, q⟩ := h
  cases rx
  cases ry
  obtain ⟨its, r, pl, _⟩ := I.list ha
  obtain ⟨its2, r2, pl2, _⟩ := I.list hb
  obtain rfl : its2 = [] := by
    cases r2
    rfl
  cases xs with
  | nil =>
    obtain rfl : its = [] := by
      cases r
      rfl
    exact SeqAt.RcNeAt.lists (e := fun _ => true) pl.isList pl2.isList rfl hu (fun j _ h2 => absurd h2 (Nat.not_lt_zero j)) _ _ _ _ ⟨.bl false, H, I, rfl, q⟩
  | cons z zs =>
    obtain ⟨i0, is, rfl⟩ : ∃ i0 is, its = i0 :: is := by
      cases r
      exact ⟨_, _, rfl⟩
    exact SeqAt.RcNeAt.lists_lengths pl.isList pl2.isList rfl hu _ _ _ _ ⟨.bl true, H, I, rfl, q⟩
theorem op_eqL0 (hu : X.A.units < cLine) : OpR X (compareOp .Eq) (rEqL0 X.K) := by
  intro pins s σ H x y v u Q I rx ry h
  obtain ⟨a, b, xs, rfl, rfl, ha, hb, q⟩ := h
  cases rx
  cases ry
  obtain ⟨its, r, pl, _⟩ := I.list ha
  obtain ⟨its2, r2, pl2, _⟩ := I.list hb
  obtain rfl : its2 = [] := by
    cases r2
    rfl
  cases xs with
  | nil =>
    obtain rfl : its = [] := by
      cases r
      rfl
    exact SeqAt.eq_listAt (e := fun _ => true) pl.isList pl2.isList rfl hu (fun j _ h2 => absurd h2 (Nat.not_lt_zero j)) ⟨.bl true, H, I, rfl, q⟩
  | cons z zs =>
    obtain ⟨i0, is, rfl⟩ : ∃ i0 is, its = i0 :: is := by
      cases r
      exact ⟨_, _, rfl⟩
    exact SeqAt.eq_list_lengthsAt pl.isList pl2.isList rfl hu ⟨.bl false, H, I, rfl, q⟩
theorem op_neT0 (hu : X.A.units < cLine) : OpR X (compareOp .NotEq) (rNeT0 X.K) := by
  intro pins s σ H x y v u Q I rx ry h
  obtain ⟨a, b, xs, rfl, rfl, ha, hb, q⟩ := h
  cases rx
  cases ry
  obtain ⟨its, r, pl, _⟩ := I.tuple ha
  obtain ⟨its2, r2, pl2, _⟩ := I.tuple hb
  obtain rfl : its2 = [] := by
    cases r2
    rfl
  refine SeqAt.RcNeAt.tuples (e := fun _ => true) pl pl2 hu (fun j _ h2 => absurd h2 (Nat.not_lt_zero j)) _ _ _ _ ⟨.bl (!xs.isEmpty), H, I, ?_, q⟩
  cases xs with
  | nil =>
    cases r
    rfl
  | cons z zs =>
    cases r
    rfl
end
end Rw

set_option Elab.async false
set_option linter.all false
set_option maxRecDepth 100000
set_option maxHeartbeats 4000000
namespace K58
open PySem PySem.Spec PyProof.Rows L2 Rw
def top (i : Nat) : Stmt := PySem.Challenge.pw_rulewardens_k58_onlookers_of_any_value.main.body.getD i (.Pass ⟨0, 0, 0, 0⟩)
abbrev sDraw : Stmt := top 13

/-! ### the deck -/
abbrev dk (L : Addr) (m k : Int) : List (Key × V) := [(.inr "cells", .ref L), (.inr "mixed", .int m), (.inr "draws", .int k)]
abbrev kC : Key := Sum.inr ("cells" : Str)
abbrev kM : Key := Sum.inr ("mixed" : Str)
abbrev kD : Key := Sum.inr ("draws" : Str)
theorem cm : ¬ kC = kM := by decide +kernel
theorem cd : ¬ kC = kD := by decide +kernel
theorem md : ¬ kM = kD := by decide +kernel
theorem dk_vc (L : Addr) (m k : Int) : valV (dk L m k) kC = some (.ref L) := valV_pos rfl
theorem dk_vm (L : Addr) (m k : Int) : valV (dk L m k) kM = some (.int m) := (valV_neg cm).trans (valV_pos rfl)
theorem dk_vd (L : Addr) (m k : Int) : valV (dk L m k) kD = some (.int k) := (valV_neg cd).trans ((valV_neg md).trans (valV_pos rfl))
theorem dk_cells {H : Hp} {D L : Addr} {m k : Int} (h : H D = some (.dK (dk L m k))) : DGet H D (.str "cells") (some (.ref L)) := by
  have e := DGet.k (k := kC) h
  rw [dk_vc] at e
  exact e
theorem dk_mixed {H : Hp} {D L : Addr} {m k : Int} (h : H D = some (.dK (dk L m k))) : DGet H D (.str "mixed") (some (.int m)) := by
  have e := DGet.k (k := kM) h
  rw [dk_vm] at e
  exact e
theorem dk_draws {H : Hp} {D L : Addr} {m k : Int} (h : H D = some (.dK (dk L m k))) : DGet H D (.str "draws") (some (.int k)) := by
  have e := DGet.k (k := kD) h
  rw [dk_vd] at e
  exact e
theorem dk_put (L : Addr) (m k j : Int) : putK (dk L m k) kD (.int j) = dk L m j := by
  unfold putK
  rw [valV_any, dk_vd]
  have e : (some (V.int k)).isSome = true := rfl
  rw [if_pos e]
  simp only [dk, List.map_cons, List.map_nil, if_neg cd, if_neg md, if_true]
structure Deck (H : Hp) (D L : Addr) (n : Int) : Prop where
  ex : ∃ (cs : List Int) (m k : Int), H D = some (.dK (dk L m k)) ∧ H L = some (.lst (cs.map .int)) ∧ cs.length ≤ 63 ∧ 0 ≤ m ∧ m < 2147483648 ∧ 0 ≤ k ∧ k ≤ n
/-- all that stood stands, but for the deck -/
def Kp (D L : Addr) (H H' : Hp) : Prop := ∀ a o, H a = some o → a ≠ D → a ≠ L → H' a = some o
def spDraw : Sp := fun vs H Q _ => ∃ (D L : Addr) (n b : Int), vs = [.ref D, .int b] ∧ Deck H D L n ∧ n ≤ 1000000 ∧ 1 ≤ b ∧ b ≤ 1000000 ∧
  ∀ r H', 0 ≤ r → r < b → Deck H' D L (n + 1) → Kp D L H H' → Q (.int r) H'
structure Txt (K : PySem.W.Frag) (mg : Str → Option Value) : Prop where
  int : mg "int" = none
  len : mg "len" = none
  list : mg "list" = none

theorem lay_ints : ∀ cs : List Int, PyData.canLayAll0 (cs.map PyData.int) = true
  | [] => by simp only [List.map_nil, PyData.canLayAll0]
  | c :: cs => by simp only [List.map_cons, PyData.canLayAll0, PyData.canLay0, lay_ints cs, Bool.and_self]
theorem depth_ints : ∀ cs : List Int, PyData.depthAll (cs.map PyData.int) = 0
  | [] => by simp only [List.map_nil, PyData.depthAll]
  | c :: cs => by simp only [List.map_cons, PyData.depthAll, PyData.depth, depth_ints cs, Nat.max_self]
theorem shaped_ints (cs : List Int) : SeqAt.shaped (.list (cs.map PyData.int)) = true := by
  unfold SeqAt.shaped
  simp only [PyData.canLay0, PyData.depth, lay_ints, depth_ints, Bool.true_and]
  decide
theorem dp_ints {K : PySem.W.Frag} {H : Hp} : ∀ cs : List Int, DpAll K H (cs.map .int) (cs.map PyData.int)
  | [] => .nil
  | c :: cs => .cons (.int c) (dp_ints cs)
theorem eqv_nil (cs : List Int) : PyData.eqv (.list (cs.map PyData.int)) (.list []) = cs.isEmpty := by
  cases cs with
  | nil => simp only [List.map_nil, PyData.eqv, PyData.eqvAll]; rfl
  | cons c cs => simp only [List.map_cons, PyData.eqv, PyData.eqvAll]; rfl

section
variable {P : Program} {w : World} {K : PySem.W.Frag} {mg : Str → Option Value} {base : Heap}
theorem scDraw : FnScope ["deck", "below", "turn_now", "figure", "cell"] ["deck", "below"] (defScope sDraw) := ⟨rfl, rfl, rfl, by decide +kernel, rfl, by decide +kernel, by decide +kernel⟩
theorem ok_draw {f : Addr} {fd : FuncData} (F : FunD K "_law_draw" "_law_draw" (defArgs sDraw) (defBody sDraw) (defScope sDraw) [] [] f fd) (T : Txt K mg) : FnOk P w K mg base CX0 1 f fd ["deck", "below"] spDraw := by
  refine F.ok scDraw (fun vs H Q E h => ?_) (fun cdv A outer s H vs Q E hr h => ?_)
  · obtain ⟨D, L, n, b, rfl, _⟩ := h
    rfl
  obtain ⟨D, L, n, b, rfl, ⟨cs, m, k, hD, hL, hc, hm0, hm1, hk0, hk1⟩, hn, hb0, hb1, hq⟩ := h
  refine ⟨_, PSs.nox (pss_cons (ps_dput (hu_of hr) (pv 0) pe_str (pe_op op_add (pe_dget (hu_of hr) (pv 0) pe_str (fun _ _ => rfl)) pe_int) rfl)
      (pss_cons (ps_par (i := 2) (j := 3) (by rfl) scDraw.nd rfl rfl (by decide) rfl rfl (pa_cons (pe_dget (hu_of hr) (pv 0) pe_str (fun _ _ => rfl)) (pa_cons (pe_dget (hu_of hr) (pv 0) pe_str (fun _ _ => rfl)) pa_nil)) (by rfl))
      (C8.pss_cut (ps_if (pt_cmpR (op_neL0 hr.units0) (pe_dget (hu_of hr) (pv 0) pe_str (fun _ _ => rfl)) (pe_lst pa_nil) (nomark _)) (pss_cons (ps_set (i := 4) scDraw.nd rfl (by first | exact Or.inl rfl | exact Or.inr rfl) (pe_callTy call_int1 (by rfl) T.int (by decide +kernel) (pa_cons (pe_bm0 PySem.F.plainAttrs_list PySem.F.slot_list_pop PySem.F.type_list_pop mt_pop (pe_dget (hu_of hr) (pv 0) pe_str (fun _ _ => rfl))) pa_nil)))
      (pss_cons (ps_if (pt_cmpR op_ge (pv 4) (pe_op op_pow pe_int pe_int) (nomark _)) (pss_cons (ps_expr (pe_bm PySem.F.plainAttrs_list PySem.F.slot_list_append PySem.F.type_list_append mt_append (pe_dget (hu_of hr) (pv 0) pe_str (fun _ _ => rfl)) (pa_cons (pe_op op_fdiv (pv 4) (pv 1)) pa_nil)))
      (pss_one (ps_ret (pe_op op_mod (pv 4) (pv 1))))) pss_nil)
      (pss_one (ps_set (i := 3) scDraw.nd rfl (by first | exact Or.inl rfl | exact Or.inr rfl) (pe_op op_add (pv 3) (pe_op op_mod (pv 4) pe_int)))))) pss_nil)
      (pss_cons (ps_set (i := 3) scDraw.nd rfl (by first | exact Or.inl rfl | exact Or.inr rfl) (pe_op op_mod (pe_op op_mul (pe_callTy call_int1 (by rfl) T.int (by decide +kernel) (pa_cons (pe_op op_add (pe_op op_add (pe_op op_mod (pe_callTy call_int1 (by rfl) T.int (by decide +kernel) (pa_cons (pv 3) pa_nil)) pe_int) (pe_op op_mul (pe_op op_mul pe_int (pv 2)) (pv 2))) pe_int) pa_nil)) pe_int) pe_int))
      (pss_cons (ps_set (i := 3) scDraw.nd rfl (by first | exact Or.inl rfl | exact Or.inr rfl) (pe_op op_mod (pe_callTy call_int1 (by rfl) T.int (by decide +kernel) (pa_cons (pe_op op_add (pe_op op_add (pe_op op_mul (pv 3) (pv 3)) (pe_op op_mul pe_int (pv 2))) pe_int) pa_nil)) pe_int))
      (pss_one (ps_ret (pe_op op_mod (pe_op op_fdiv (pe_op op_mod (pe_callTy call_int1 (by rfl) T.int (by decide +kernel) (pa_cons (pe_op op_mul (pv 3) pe_int) pa_nil)) pe_int) pe_int) (pv 1))))))))), ?_⟩
  have nDL : D ≠ L := ne_of hD hL (fun z => by cases z)
  refine ⟨_, rfl, _, _, rfl, dk_draws hD, _, _, rfl, rfl, _, rfl, _, _, rfl, DPut.k (k := kD) hD (by show 3 < sizeLine; decide), ?_⟩
  generalize eH : upd H D (.dK (putK (dk L m k) kD (.int (k + 1)))) = H1
  have hD1 : H1 D = some (.dK (dk L m (k + 1))) := by rw [← eH, upd_same, dk_put]
  have hL1 : H1 L = some (.lst (cs.map .int)) := by rw [← eH, upd_ne nDL.symm]; exact hL
  have kp1 : ∀ a o, H a = some o → a ≠ D → H1 a = some o := fun a o z h1 => by rw [← eH, upd_ne h1]; exact z
  refine ⟨_, rfl, _, _, rfl, dk_draws hD1, _, rfl, _, _, rfl, dk_mixed hD1, _, _, rfl, ?_⟩
  -- behind the if: some figure
  refine ⟨fun σ' H' => ∃ (fg : Int) (c : Option V), σ' = [some (.ref D), some (.int b), some (.int (k + 1)), some (.int fg), c] ∧ 0 ≤ fg ∧ fg < 4294967296 ∧ Deck H' D L (n + 1) ∧ Kp D L H H', ?_, ?_⟩
  · refine ⟨_, rfl, _, _, rfl, dk_cells hD1, Nat.zero_le _, fun p hp => ?_⟩
    generalize eH2 : upd H1 p (.lst []) = H2
    have hp2 : H2 p = some (.lst []) := by rw [← eH2, upd_same]
    have kp2 : ∀ a o, H1 a = some o → H2 a = some o := fun a o z => by rw [← eH2, upd_ne (ne_of_none z hp)]; exact z
    have hD2 := kp2 _ _ hD1
    have hL2 := kp2 _ _ hL1
    have kp : Kp D L H H2 := fun a o z h1 _ => kp2 _ _ (kp1 _ _ z h1)
    refine ⟨_, _, _, rfl, rfl, SqL.of hL2, SqL.of hp2, _, rfl, ?_⟩
    rw [show (cs.map V.int).isEmpty = cs.isEmpty by cases cs <;> rfl]
    cases hcs : cs.isEmpty with
    | true =>
      refine iteF ?_
      exact ⟨m, none, rfl, hm0, by omega, ⟨cs, m, k + 1, hD2, hL2, hc, hm0, hm1, by omega, by omega⟩, kp⟩
    | false =>
      refine iteT ?_
      obtain ⟨ds, c, rfl⟩ : ∃ ds c, cs = ds ++ [c] := by
        refine ⟨cs.dropLast, cs.getLast (fun z => by rw [z] at hcs; cases hcs), (List.dropLast_concat_getLast _).symm⟩
      have el : (List.map V.int (ds ++ [c]))[(List.map V.int (ds ++ [c])).length - 1]? = some (.int c) := by simp
      have ed : (List.map V.int (ds ++ [c])).dropLast = ds.map V.int := by simp
      have ln : ds.length ≤ 62 := by
        rw [List.length_append] at hc
        have : [c].length = 1 := rfl
        omega
      refine ⟨_, rfl, _, _, rfl, dk_cells hD2, .inl ⟨rfl, _, SqL.of hL2⟩, _, _, _, rfl, rfl, hL2, el, .inl ⟨_, rfl, ?_⟩⟩
      rw [ed]
      generalize eH3 : upd H2 L (.lst (ds.map V.int)) = H3
      have hL3 : H3 L = some (.lst (ds.map V.int)) := by rw [← eH3, upd_same]
      have hD3 : H3 D = some (.dK (dk L m (k + 1))) := by rw [← eH3, upd_ne nDL]; exact hD2
      have kp3 : Kp D L H H3 := fun a o z h1 h2 => by rw [← eH3, upd_ne h2]; exact kp a o z h1 h2
      refine ⟨_, rfl, _, _, rfl, rfl, ⟨by decide, by decide, by decide⟩, _, _, rfl, rfl, _, rfl, ?_⟩
      refine ite2 (fun _ => ?_) fun _ => ?_
      · -- a large cell: a digit of it
        refine ⟨_, rfl, _, _, rfl, dk_cells hD3, .inl ⟨rfl, _, SqL.of hL3⟩, _, rfl, _, rfl, _, _, rfl, rfl, ⟨by omega, by omega⟩, _, _, _, rfl, rfl, hL3, by rw [List.length_map]; exact small1000 (by omega), ?_⟩
        refine ⟨_, rfl, _, rfl, _, _, rfl, rfl, by omega, ?_⟩
        refine hq _ _ (Int.emod_nonneg _ (by omega)) (Int.emod_lt_of_pos _ (by omega)) ⟨ds ++ [c / b], m, k + 1, ?_, ?_, ?_, hm0, hm1, by omega, by omega⟩ fun a o z h1 h2 => ?_
        · rw [upd_ne nDL]; exact hD3
        · rw [upd_same, List.map_append]; rfl
        · rw [List.length_append]; show ds.length + 1 ≤ 63; omega
        · rw [upd_ne h2]; exact kp3 a o z h1 h2
      · refine ⟨_, rfl, _, rfl, _, _, rfl, rfl, (by exact (by decide : (0 : Int) < 2147483563)), _, _, rfl, rfl, ?_⟩
        have h1 := Int.emod_nonneg c (by decide : (2147483563 : Int) ≠ 0)
        have h2 := Int.emod_lt_of_pos c (by decide : (0 : Int) < 2147483563)
        exact ⟨_, _, rfl, by omega, by omega, ⟨ds, m, k + 1, hD3, hL3, by omega, hm0, hm1, by omega, by omega⟩, kp3⟩
  · rintro σ' H' ⟨fg, c, rfl, f0, f1, hdk, hkp⟩
    have sq : ∀ x : Int, 0 ≤ x → x ≤ 1000001 → 0 ≤ 60623 * x * x ∧ 60623 * x * x ≤ 60623 * 1000001 * 1000001 := fun x h1 h2 => by
      have z1 : 0 ≤ 60623 * x := by omega
      have z2 : 60623 * x ≤ 60623 * 1000001 := by omega
      exact ⟨Int.mul_nonneg z1 h1, Int.mul_le_mul z2 h2 h1 (by decide)⟩
    have e1 := Int.emod_nonneg fg (by decide : (2147483629 : Int) ≠ 0)
    have e2 := Int.emod_lt_of_pos fg (by decide : (0 : Int) < 2147483629)
    obtain ⟨e3, e4⟩ := sq (k + 1) (by omega) (by omega)
    refine ⟨_, rfl, .inl ⟨_, rfl, _, _, rfl, rfl, (by exact (by decide : (0 : Int) < 2147483629)), _, rfl, _, _, rfl, rfl, .inl ⟨by decide, by decide⟩, _, rfl, _, _, rfl, rfl, .inl ⟨by omega, by omega⟩, _, _, rfl, rfl, _, _, rfl, rfl,
      .inl ⟨_, rfl, _, _, rfl, rfl, .inl ⟨by omega, by omega⟩, _, _, rfl, rfl, (by exact (by decide : (0 : Int) < 2147483647)), ?_⟩⟩⟩
    generalize (fg % 2147483629 + 60623 * (k + 1) * (k + 1) + 265) * 40692 = g1
    have f2 := Int.emod_nonneg g1 (by decide : (2147483647 : Int) ≠ 0)
    have f3 := Int.emod_lt_of_pos g1 (by decide : (0 : Int) < 2147483647)
    generalize g1 % 2147483647 = g2 at f2 f3
    refine ⟨_, rfl, _, rfl, _, _, rfl, rfl, .inl ⟨by omega, by omega⟩, _, rfl, _, _, rfl, rfl, .inl ⟨by decide, by decide⟩, _, _, rfl, rfl, _, _, rfl, rfl, .inl ⟨_, rfl, _, _, rfl, rfl, (by exact (by decide : (0 : Int) < 2147483579)), ?_⟩⟩
    generalize g2 * g2 + 69621 * (k + 1) + 265 = g3
    have f4 := Int.emod_nonneg g3 (by decide : (2147483579 : Int) ≠ 0)
    have f5 := Int.emod_lt_of_pos g3 (by decide : (0 : Int) < 2147483579)
    generalize g3 % 2147483579 = g4 at f4 f5
    refine ⟨_, rfl, _, _, rfl, rfl, .inl ⟨by omega, by omega⟩, .inl ⟨_, rfl, _, _, rfl, rfl, (by exact (by decide : (0 : Int) < 2147483549)), _, _, rfl, rfl, ⟨by decide, by decide⟩, _, rfl, _, _, rfl, rfl, by omega, ?_⟩⟩
    exact hq _ _ (Int.emod_nonneg _ (by omega)) (Int.emod_lt_of_pos _ (by omega)) hdk hkp
end
end K58

set_option Elab.async false
set_option linter.all false
set_option maxRecDepth 100000
set_option maxHeartbeats 4000000
namespace K58
open PySem PySem.Spec PyProof.Rows L2 Rw
abbrev sDeck : Stmt := top 12
abbrev sPick : Stmt := top 14
def spDeck (K : PySem.W.Frag) : Sp := fun vs H Q _ => ∃ (a : Addr) (ns : List Int), vs = [.ref a] ∧ SqL K H a (ns.map V.int) ∧ ∀ D L H', Deck H' D L 0 → Same H H' → H D = none → H L = none → D ≠ L → Q (.ref D) H'
def spPick : Sp := fun vs H Q _ => ∃ (D L : Addr) (n : Int) (a : Addr) (xs : List V), vs = [.ref D, .ref a] ∧ Deck H D L n ∧ n ≤ 1000000 ∧ H a = some (.lst xs) ∧ a ≠ L ∧ 1 ≤ xs.length ∧ xs.length ≤ 1000 ∧
  ∀ (i : Nat) (x : V) H', xs[i]? = some x → Deck H' D L (n + 1) → Kp D L H H' → Q x H'
theorem Kp.trans {D L : Addr} {H H1 H2 : Hp} (a : Kp D L H H1) (b : Kp D L H1 H2) : Kp D L H H2 := fun x o z h1 h2 => b x o (a x o z h1 h2) h1 h2
theorem kp_same {D L : Addr} {H H1 : Hp} (s : Same H H1) : Kp D L H H1 := fun x o z _ _ => s x o z
theorem Deck.same {D L : Addr} {m : Int} {H H1 : Hp} (d : Deck H D L m) (s : Same H H1) : Deck H1 D L m := by
  obtain ⟨cs, a, b, h1, h2, h3⟩ := d.ex
  exact ⟨cs, a, b, s _ _ h1, s _ _ h2, h3⟩
theorem Deck.le {D L : Addr} {m n : Int} {H : Hp} (d : Deck H D L m) (h : m ≤ n) : Deck H D L n := by
  obtain ⟨cs, a, b, h1, h2, h3, h4, h5, h6, h7⟩ := d.ex
  exact ⟨cs, a, b, h1, h2, h3, h4, h5, h6, by omega⟩
theorem Deck.two {D L : Addr} {m : Int} {H : Hp} (d : Deck H D L m) : (∃ o, H D = some o) ∧ ∃ o, H L = some o := by
  obtain ⟨cs, a, b, h1, h2, h3⟩ := d.ex
  exact ⟨⟨_, h1⟩, ⟨_, h2⟩⟩
/-- what is free behind was free before -/
theorem Kp.free {D L : Addr} {m : Int} {H H1 : Hp} (k : Kp D L H H1) (d : Deck H1 D L m) {p : Addr} (h : H1 p = none) : H p = none := by
  cases e : H p with
  | none => rfl
  | some o =>
    obtain ⟨⟨o1, h1⟩, ⟨o2, h2⟩⟩ := d.two
    have := k p o e (fun z => by rw [z, h1] at h; cases h) (fun z => by rw [z, h2] at h; cases h)
    rw [this] at h
    cases h
section
variable {P : Program} {w : World} {K : PySem.W.Frag} {mg : Str → Option Value} {base : Heap}
theorem scDeck : FnScope ["script", "cells", "mixed", "cell"] ["script"] (defScope sDeck) := ⟨rfl, rfl, rfl, by decide +kernel, rfl, by decide +kernel, by decide +kernel⟩
theorem ok_deck {f : Addr} {fd : FuncData} (F : FunD K "_law_deck" "_law_deck" (defArgs sDeck) (defBody sDeck) (defScope sDeck) [] [] f fd) (T : Txt K mg) : FnOk P w K mg base CX0 1 f fd ["script"] (spDeck K) := by
  refine F.ok scDeck (fun vs H Q E h => ?_) (fun cdv A outer s H vs Q E hr h => ?_)
  · obtain ⟨a, ns, rfl, _⟩ := h
    rfl
  obtain ⟨a, ns, rfl, hS, hq⟩ := h
  refine ⟨_, PSs.nox (pss_cons (ps_par (i := 1) (j := 2) (by rfl) scDeck.nd rfl rfl (by decide) rfl rfl (pa_cons (pe_callTy call_list_of (by rfl) T.list (by decide +kernel) (pa_cons (pe_slice sl_list (pv 0) po_none (po_some pe_int)) pa_nil)) (pa_cons pe_int pa_nil)) (by rfl))
      (pss_cons (ps_for PassesOwn.never rfl (pi_list (pv 1)) (pg_name (i := 3) scDeck.nd rfl (by first | exact Or.inl rfl | exact Or.inr rfl))
        (pss_one (ps_set (i := 2) scDeck.nd rfl (by first | exact Or.inl rfl | exact Or.inr rfl) (pe_op op_mod (pe_callTy call_int1 (by rfl) T.int (by decide +kernel) (pa_cons (pe_op op_add (pe_op op_add (pe_op op_mul (pv 2) pe_int) (pe_op op_mod (pe_callTy call_int1 (by rfl) T.int (by decide +kernel) (pa_cons (pv 3) pa_nil)) pe_int)) pe_int) pa_nil)) pe_int))))
      (pss_one (ps_ret (pe_disp (pps_cons pe_str (pe_revL (pv 1)) (pps_cons pe_str (pv 2) (pps_cons pe_str pe_int pps_nil))) (by rfl) (by rfl) (fun z => by cases z) (by decide)))))), ?_⟩
  -- the cells: a slice, copied
  refine ⟨_, rfl, _, rfl, a, _, rfl, hS, fun p hp => ?_⟩
  obtain ⟨cs, ecs, lcs⟩ : ∃ cs : List Int, cutV (ns.map V.int) none (some 63) = cs.map .int ∧ cs.length ≤ 63 := by
    refine ⟨ns.take 63, ?_, by rw [List.length_take]; omega⟩
    unfold cutV
    rw [HT.sIx_none, show (some (63 : Int)) = some ((63 : Nat) : Int) from rfl, HT.sIx_nat, List.drop_zero, Nat.sub_zero, List.length_map, ← List.map_take]
    congr 1
    by_cases h : 63 ≤ ns.length
    · rw [Nat.min_eq_left h]
    · rw [Nat.min_eq_right (by omega), List.take_length, List.take_of_length_le (by omega)]
  rw [ecs]
  refine ⟨p, _, rfl, .inl (SqL.of upd_same), fun l hl => ?_⟩
  refine ⟨_, _, rfl, ?_⟩
  have npl : l ≠ p := fun e => by
    rw [e, upd_same] at hl
    cases hl
  have hl0 : H l = none := by
    rw [upd_ne npl] at hl
    exact hl
  generalize eH : upd (upd H p (.lst (cs.map .int))) l (.lst (cs.map .int)) = H1
  have hl1 : H1 l = some (.lst (cs.map .int)) := by rw [← eH, upd_same]
  have same : Same H H1 := fun b o z => by
    rw [← eH, upd_ne (ne_of_none z hl0), upd_ne (ne_of_none z hp)]
    exact z
  -- the loop: the mixed number stays below
  refine ⟨_, rfl, l, rfl, ⟨_, SqL.of hl1⟩, for_list (xs := cs.map .int) (fun _ σ' H' => ∃ (m : Int) (c : Option V), σ' = [some (.ref a), some (.ref l), some (.int m), c] ∧ 0 ≤ m ∧ m < 2147483648 ∧ H1 = H') ⟨_, none, rfl, by decide, by decide, rfl⟩ ?_ ?_ ?_⟩
  · rintro _ _ _ _ ⟨m, c, rfl, _, _, rfl⟩
    exact SqL.of hl1
  · rintro i x _ _ hx ⟨m, c, rfl, m0, m1, rfl⟩
    obtain ⟨z, hz, rfl⟩ := List.mem_map.mp (List.mem_of_getElem? hx)
    refine ⟨_, rfl, _, _, rfl, rfl, .inl ⟨by omega, by omega⟩, _, rfl, .inl ⟨_, rfl, _, _, rfl, rfl, (by exact (by decide : (0 : Int) < 2147483629)), _, _, rfl, rfl, _, _, rfl, rfl, .inl ⟨_, rfl, _, _, rfl, rfl, (by exact (by decide : (0 : Int) < 2147483587)), ?_⟩⟩⟩
    exact ⟨_, _, rfl, Int.emod_nonneg _ (by decide), Int.lt_trans (Int.emod_lt_of_pos _ (by decide)) (by decide), rfl⟩
  · rintro _ _ ⟨m, c, rfl, m0, m1, rfl⟩
    intro D hD
    refine ⟨_, rfl, l, _, rfl, SqL.of (by rw [upd_ne (ne_of_none hl1 hD)]; exact hl1), fun q hq' => ?_⟩
    have nqD : q ≠ D := fun e => by
      rw [e, upd_same] at hq'
      cases hq'
    have hq1 : H1 q = none := by
      rw [upd_ne nqD] at hq'
      exact hq'
    refine ⟨_, rfl, by rw [upd_ne nqD.symm]; exact upd_same, dk q m 0, rfl, (by show 3 ≤ 15; decide), ?_⟩
    have em : mergeK [] (dk q m 0) = dk q m 0 := by
      have e1 : putK ([] : List (Key × V)) kC (.ref q) = [(kC, .ref q)] := putK_new _ rfl
      have e2 : putK [(kC, V.ref q)] kM (.int m) = [(kC, .ref q), (kM, .int m)] := putK_new _ ((valV_neg cm).trans rfl)
      have e3 : putK [(kC, V.ref q), (kM, V.int m)] kD (.int 0) = dk q m 0 := putK_new _ ((valV_neg cd).trans ((valV_neg md).trans rfl))
      show putK (putK (putK [] kC (.ref q)) kM (.int m)) kD (.int 0) = _
      rw [e1, e2, e3]
    rw [em]
    have h0 : ∀ {b : Addr}, H1 b = none → H b = none := fun {b} z => same.free z
    refine hq D q _ ⟨cs.reverse, m, 0, upd_same, ?_, ?_, m0, m1, Int.le_refl _, Int.le_refl _⟩ (fun b o z => ?_) (h0 hD) (h0 hq1) nqD.symm
    · rw [upd_ne nqD, upd_same, List.map_reverse]
    · rw [List.length_reverse]
      exact lcs
    · have z1 := same b o z
      rw [upd_ne (ne_of_none z1 hD), upd_ne (ne_of_none z1 hq1), upd_ne (ne_of_none z1 hD)]
      exact z1
theorem scPick : FnScope ["deck", "some"] ["deck", "some"] (defScope sPick) := ⟨rfl, rfl, rfl, by decide +kernel, rfl, by decide +kernel, by decide +kernel⟩
theorem ok_pick {f fD : Addr} {fd fdD : FuncData} (F : FunD K "_law_pick" "_law_pick" (defArgs sPick) (defBody sPick) (defScope sPick) [] [] f fd) (T : Txt K mg)
    (FD : FunD K "_law_draw" "_law_draw" (defArgs sDraw) (defBody sDraw) (defScope sDraw) [] [] fD fdD) (mD : mg "_law_draw" = some (.ref fD)) : FnOk P w K mg base CX0 2 f fd ["deck", "some"] spPick := by
  have GD : FnOk P w K mg base CX0 1 fD fdD ["deck", "below"] spDraw := ok_draw FD T
  have bD : Binds K fdD ["deck", "below"] [] := FD.bindsN fun _ _ _ _ _ _ us hl => match us, hl with | [_, _], _ => rfl
  refine F.ok scPick (fun vs H Q E h => ?_) (fun cdv A outer s H vs Q E hr h => ?_)
  · obtain ⟨D, L, n, a, xs, rfl, _⟩ := h
    rfl
  obtain ⟨D, L, n, a, xs, rfl, hd, hn, ha, naL, l1, l2, hq⟩ := h
  refine ⟨_, PSs.nox (pss_one (ps_ret (pe_ix ix_list (pv 1) (pe_call GD (hr.mono (by decide)) rfl mD FD.kp bD .nil pass0 (pa_cons (pv 0) (pa_cons (pe_callB call_len_seq (by rfl) T.len PySem.boot_len (pa_cons (pv 1) pa_nil)) pa_nil))) (fun _ _ => rfl)))), ?_⟩
  refine ⟨_, rfl, _, rfl, _, rfl, a, xs, rfl, .inl (SqL.of ha), D, L, n, xs.length, rfl, hd, hn, by omega, by omega, fun r H' r0 r1 hd' hk => ?_⟩
  have naD : a ≠ D := by
    obtain ⟨_, _, _, z, _⟩ := hd.ex
    exact ne_of ha z (fun q => by cases q)
  obtain ⟨j, rfl⟩ := Int.eq_ofNat_of_zero_le r0
  have hj : j < xs.length := by omega
  refine ⟨a, xs, _, xs[j], rfl, rfl, SqL.of (hk _ _ ha naD naL), atI_nat (by simp [hj]), ?_⟩
  exact hq j _ H' (by simp [hj]) hd' hk
end
end K58

set_option Elab.async false
set_option linter.all false
set_option maxRecDepth 100000
set_option maxHeartbeats 4000000
/-! plain: texts whose signs rise; what sorted(set(text)) is -/
namespace Rw
open PySem PySem.Spec PyProof.Rows L2
abbrev ltS (a b : Str) : Prop := a.cps.toList < b.cps.toList
theorem str_ext {a b : Str} (h : a.cps.toList = b.cps.toList) : a = b := by
  cases a
  cases b
  congr 1
  exact Array.ext' h
theorem asc_of : ∀ (p : Str) (r : List Str), risingS p r = true → (p :: r).Nodup → (p :: r).Pairwise ltS
  | p, [], _, _ => List.pairwise_singleton _ _
  | p, x :: r, h, nd => by
    have h' : (!ltCps x.cps.toList p.cps.toList && risingS x r) = true := h
    rw [Bool.and_eq_true, Bool.not_eq_true', ltCps_eq] at h'
    have ne : p ≠ x := fun e => by
      rw [e] at nd
      exact (List.nodup_cons.mp nd).1 (by simp)
    have lt : ltS p x := by
      have n1 : ¬ x.cps.toList < p.cps.toList := of_decide_eq_false h'.1
      by_cases c : p.cps.toList < x.cps.toList
      · exact c
      · exact absurd (str_ext (List.le_antisymm (List.not_lt.mp n1) (List.not_lt.mp c))) ne
    have ih := asc_of x r h'.2 (List.nodup_cons.mp nd).2
    refine List.pairwise_cons.mpr ⟨fun y hy => ?_, ih⟩
    rcases List.mem_cons.mp hy with e | e
    · rw [e]; exact lt
    · exact List.lt_trans lt ((List.pairwise_cons.mp ih).1 y e)
theorem asc_sorted {ys : List Str} (h : sortedS ys = true) (nd : ys.Nodup) : ys.Pairwise ltS := by
  cases ys with
  | nil => exact List.Pairwise.nil
  | cons p r => exact asc_of p r h nd
theorem asc_eq : ∀ {ys zs : List Str}, ys.Pairwise ltS → zs.Pairwise ltS → (∀ k, k ∈ ys ↔ k ∈ zs) → ys = zs
  | [], [], _, _, _ => rfl
  | [], z :: zs, _, _, h => absurd ((h z).mpr (by simp)) (by simp)
  | y :: ys, [], _, _, h => absurd ((h y).mp (by simp)) (by simp)
  | y :: ys, z :: zs, p, q, h => by
    obtain ⟨p1, p2⟩ := List.pairwise_cons.mp p
    obtain ⟨q1, q2⟩ := List.pairwise_cons.mp q
    have e : y = z := by
      rcases List.mem_cons.mp ((h y).mp (by simp)) with e | e
      · exact e
      · rcases List.mem_cons.mp ((h z).mpr (by simp)) with f | f
        · exact f.symm
        · exact absurd (List.lt_trans (q1 y e) (p1 z f)) (List.lt_irrefl _)
    subst e
    rw [asc_eq p2 q2 fun k => ⟨fun hk => ?_, fun hk => ?_⟩]
    · rcases List.mem_cons.mp ((h k).mp (List.mem_cons_of_mem _ hk)) with e | e
      · subst e
        exact absurd (p1 k hk) (List.lt_irrefl _)
      · exact e
    · rcases List.mem_cons.mp ((h k).mpr (List.mem_cons_of_mem _ hk)) with e | e
      · subst e
        exact absurd (q1 k hk) (List.lt_irrefl _)
      · exact e
/-- do the signs rise -/
def ascT (x : Str) : Bool := decide ((signs x).Pairwise ltS)
theorem sorted_is {x : Str} {ys : List Str} (h : sortedS ys = true) (nd : ys.Nodup) (m : ∀ k, k ∈ ys ↔ decide (k ∈ signs x) = true) : decide (signs x = ys) = ascT x := by
  have a := asc_sorted h nd
  unfold ascT
  rw [Bool.eq_iff_iff, decide_eq_true_eq, decide_eq_true_eq]
  constructor
  · intro e
    rw [e]
    exact a
  · intro p
    exact asc_eq p a fun k => by rw [m k, decide_eq_true_eq]
theorem eqv_strs : ∀ xs ys : List Str, PyData.eqv (.list (xs.map PyData.str)) (.list (ys.map PyData.str)) = decide (xs = ys)
  | [], [] => by simp [PyData.eqv, PyData.eqvAll]
  | [], y :: ys => by simp [PyData.eqv, PyData.eqvAll]
  | x :: xs, [] => by simp [PyData.eqv, PyData.eqvAll]
  | x :: xs, y :: ys => by
    have ih := eqv_strs xs ys
    simp only [PyData.eqv] at ih
    simp only [PyData.eqv, List.map_cons, PyData.eqvAll, ih]
    by_cases e : x = y
    · simp [e]
    · simp [e]
theorem dp_strs {K : PySem.W.Frag} {H : Hp} : ∀ xs : List Str, DpAll K H (xs.map .str) (xs.map PyData.str)
  | [] => .nil
  | x :: xs => .cons (.str x) (dp_strs xs)
theorem lay_strs : ∀ {xs : List Str}, (∀ x ∈ xs, PyData.strOk x = true) → PyData.canLayAll0 (xs.map PyData.str) = true
  | [], _ => by simp only [List.map_nil, PyData.canLayAll0]
  | x :: xs, h => by
    have ih := lay_strs (xs := xs) fun y hy => h y (List.mem_cons_of_mem _ hy)
    simp only [List.map_cons, PyData.canLayAll0, PyData.canLay0, h x (by simp), ih, Bool.and_self]
theorem shaped_strs {xs : List Str} (h : ∀ x ∈ xs, PyData.strOk x = true) : SeqAt.shaped (.list (xs.map PyData.str)) = true := by
  unfold SeqAt.shaped
  have d : ∀ xs : List Str, PyData.depthAll (xs.map PyData.str) = 0 := fun xs => depthAll_strs' xs
  simp only [PyData.canLay0, PyData.depth, lay_strs h, d, Bool.true_and]
  decide
/-- a sign from a to z -/
def azS (c : Str) : Bool := !decide (ltS c "a") && !decide (ltS "z" c)
theorem az_ok {c : Nat} (h : azS ⟨#[c]⟩ = true) : PyData.strOk ⟨#[c]⟩ = true := by
  unfold azS at h
  rw [Bool.and_eq_true, Bool.not_eq_true', Bool.not_eq_true', decide_eq_false_iff_not, decide_eq_false_iff_not] at h
  have h2 : ¬ (([122] : List Nat) < [c]) := h.2
  have : c ≤ 122 := by
    rcases Nat.lt_or_ge 122 c with q | q
    · exact absurd (List.Lex.rel q) h2
    · exact q
  unfold PyData.strOk
  simp
  omega
/-- a text of rising signs from a to z -/
def heardT (x : Str) : Bool := (signs x).all azS && ascT x
end Rw

set_option Elab.async false
set_option linter.all false
set_option maxRecDepth 100000
set_option maxHeartbeats 4000000
namespace K58
open PySem PySem.Spec PyProof.Rows L2 Rw
abbrev sIsI : Stmt := top 5
abbrev sIsH : Stmt := top 6
abbrev sWhole : Stmt := top 18
abbrev sLH : Stmt := top 20
abbrev NIsI : List Str := ["thing"]
abbrev NIsH : List Str := ["thing", "sign"]
abbrev NWhole : List Str := ["it"]
abbrev NLH : List Str := ["it", "sign"]
theorem bt_int : bootBuiltins "int" = some (.type "int") := by decide +kernel
theorem bt_bool : bootBuiltins "bool" = some (.type "bool") := by decide +kernel
theorem bt_str : bootBuiltins "str" = some (.type "str") := by decide +kernel
theorem bt_tuple : bootBuiltins "tuple" = some (.type "tuple") := by decide +kernel
structure Ts (K : PySem.W.Frag) (mg : Str → Option Value) : Prop extends Txt K mg where
  isin : mg "isinstance" = none
  all : mg "all" = none
  sorted : mg "sorted" = none
  set : mg "set" = none
  repr : mg "repr" = none
  bool : mg "bool" = none
  str : mg "str" = none
  tuple : mg "tuple" = none
theorem call_isiK {X : Cx} {K : PySem.W.Frag} (hK : X.K = K) : CallR X (.builtin "isinstance") (rIsi K) := by subst hK; exact call_isi
theorem cr_allK {X : Cx} {K : PySem.W.Frag} (hK : X.K = K) (hc : X.calm = true) : CallR X (.builtin "all") (rAll K) := by subst hK; exact cr_all hc
/-- an int that is no bool -/
def wholeD : PyData → Bool
  | .int _ => true
  | _ => false
theorem whole_is (d : PyData) : (kInt d && !kBool d) = wholeD d := by cases d <;> rfl
def heardD : PyData → Bool
  | .str x => heardT x
  | _ => false
def spIsI : Sp := fun vs H Q _ => ∃ (v : V) (ok : Addr → Prop) (d : PyData), vs = [v] ∧ Dq H ok v d ∧ Q (.bl (wholeD d)) H
def spIsH : Sp := fun vs H Q _ => ∃ (v : V) (ok : Addr → Prop) (d : PyData), vs = [v] ∧ Dq H ok v d ∧ (∀ x, d = .str x → x.length ≤ 60) ∧ ∀ H', Same H H' → Q (.bl (heardD d)) H'
section
variable {P : Program} {w : World} {K : PySem.W.Frag} {mg : Str → Option Value} {base : Heap}
theorem scIsI : FnScope NIsI ["thing"] (defScope sIsI) := ⟨rfl, rfl, rfl, by decide +kernel, rfl, by decide +kernel, by decide +kernel⟩
theorem ok_isI {f : Addr} {fd : FuncData} (F : FunD K "is_integer" "is_integer" (defArgs sIsI) (defBody sIsI) (defScope sIsI) [] [] f fd) (T : Ts K mg) : FnOk P w K mg base CX0 1 f fd ["thing"] spIsI := by
  refine F.ok scIsI (fun vs H Q E h => ?_) (fun cdv A outer s H vs Q E hr h => ?_)
  · obtain ⟨_, _, _, rfl, _⟩ := h
    rfl
  obtain ⟨v, ok, d, rfl, hd, hq⟩ := h
  refine ⟨_, PSs.nox (pss_one (ps_ret (pe_and (pe_callB (call_isiK (K := K) rfl) (by rfl) T.isin PyProof.Rows.boot_isinstance (pa_cons (pv 0) (pa_cons (pe_bltn rfl T.int bt_int (show RelV (.ty "int") _ from rfl)) pa_nil))) (pe_one (pe_not (pe_callB (call_isiK (K := K) rfl) (by rfl) T.isin PyProof.Rows.boot_isinstance (pa_cons (pv 0) (pa_cons (pe_bltn rfl T.bool bt_bool (show RelV (.ty "bool") _ from rfl)) pa_nil)))))))), ?_⟩
  rw [← whole_is] at hq
  refine ⟨_, rfl, v, .ty "int", _, _, _, rfl, .ty _, ty_of hd, kit_int K _, _, rfl, ?_⟩
  cases e : kInt d with
  | false =>
    rw [e] at hq
    exact iteF hq
  | true =>
    rw [e] at hq
    exact iteT ⟨_, rfl, v, .ty "bool", _, _, _, rfl, .ty _, ty_of hd, kit_bool K _, _, rfl, hq⟩
theorem scWhole : FnScope NWhole ["it"] (defScope sWhole) := ⟨rfl, rfl, rfl, by decide +kernel, rfl, by decide +kernel, by decide +kernel⟩
theorem ok_whole {f : Addr} {fd : FuncData} (F : FunD K "_law_is_whole" "_law_is_whole" (defArgs sWhole) (defBody sWhole) (defScope sWhole) [] [] f fd) (T : Ts K mg) : FnOk P w K mg base CX0 1 f fd ["it"] spIsI := by
  refine F.ok scWhole (fun vs H Q E h => ?_) (fun cdv A outer s H vs Q E hr h => ?_)
  · obtain ⟨_, _, _, rfl, _⟩ := h
    rfl
  obtain ⟨v, ok, d, rfl, hd, hq⟩ := h
  refine ⟨_, PSs.nox (pss_one (ps_ret (pe_and (pe_callB (call_isiK (K := K) rfl) (by rfl) T.isin PyProof.Rows.boot_isinstance (pa_cons (pv 0) (pa_cons (pe_bltn rfl T.int bt_int (show RelV (.ty "int") _ from rfl)) pa_nil))) (pe_one (pe_not (pe_callB (call_isiK (K := K) rfl) (by rfl) T.isin PyProof.Rows.boot_isinstance (pa_cons (pv 0) (pa_cons (pe_bltn rfl T.bool bt_bool (show RelV (.ty "bool") _ from rfl)) pa_nil)))))))), ?_⟩
  rw [← whole_is] at hq
  refine ⟨_, rfl, v, .ty "int", _, _, _, rfl, .ty _, ty_of hd, kit_int K _, _, rfl, ?_⟩
  cases e : kInt d with
  | false =>
    rw [e] at hq
    exact iteF hq
  | true =>
    rw [e] at hq
    exact iteT ⟨_, rfl, v, .ty "bool", _, _, _, rfl, .ty _, ty_of hd, kit_bool K _, _, rfl, hq⟩
theorem scIsH : FnScope NIsH ["thing"] (defScope sIsH) := ⟨rfl, rfl, rfl, by decide +kernel, rfl, by decide +kernel, by decide +kernel⟩
theorem ok_isH {f : Addr} {fd : FuncData} (F : FunD K "is_heard" "is_heard" (defArgs sIsH) (defBody sIsH) (defScope sIsH) [] [] f fd) (T : Ts K mg) : FnOk P w K mg base CX0 1 f fd ["thing"] spIsH := by
  refine F.ok scIsH (fun vs H Q E h => ?_) (fun cdv A outer s H vs Q E hr h => ?_)
  · obtain ⟨_, _, _, rfl, _⟩ := h
    rfl
  obtain ⟨v, ok, d, rfl, hd, hl, hq⟩ := h
  refine ⟨_, PSs.nox (pss_cons (ps_if (PW.pt (pw_or (pt_not (pt_val (pe_callB (call_isiK (K := K) rfl) (by rfl) T.isin PyProof.Rows.boot_isinstance (pa_cons (pv 0) (pa_cons (pe_bltn rfl T.str bt_str (show RelV (.ty "str") _ from rfl)) pa_nil))))) (pw_or1 (pt_not (pt_val (pe_callB (cr_allK (K := K) rfl rfl) (by rfl) T.all (by decide +kernel) (pa_cons (pe_lc (own := [("sign", 1)]) rfl scIsH.nd (pi_str (pv 0)) (blkOk_by (N := NIsH) (sc := defScope sIsH) (by decide +kernel)) (fun _ _ _ _ _ => (pg_name (i := 1) scIsH.nd rfl (by first | exact Or.inl rfl | exact Or.inr rfl))) (fun _ _ _ _ _ => pts_nil) (fun _ _ _ _ _ => (pe_chain op_le_str op_le_str pe_str (pv 1) pe_str))) pa_nil))))))) (pss_one (ps_ret pe_bl)) pss_nil)
      (pss_one (ps_ret (pe_cmpR (op_eqD hr.units) (pe_callTy (call_listText rfl) (by rfl) T.list (by decide +kernel) (pa_cons (pv 0) pa_nil)) (pe_callB (cr_sortedText rfl) (by rfl) T.sorted (by decide +kernel) (pa_cons (pe_callTy (cr_setText rfl) (by rfl) T.set (by decide +kernel) (pa_cons (pv 0) pa_nil)) pa_nil)) (nomark _))))), ?_⟩
  refine ⟨_, rfl, v, .ty "str", _, _, _, rfl, .ty _, ty_of hd, kit_str K _, _, rfl, ?_⟩
  cases d with
  | str x =>
    cases hd
    have hx := hl x rfl
    refine iteF ?_
    refine ⟨_, rfl, x, rfl, fun D hD => ?_⟩
    have ln : (signs x).length = x.cps.size := signs_length x
    refine lc_it (walk_str (z := x)) (fun i H' => H' = upd H D (.lst (((signs x).take i).map fun c => V.bl (azS c)))) rfl (fun _ _ _ _ => trivial) ?_ ?_
    · rintro i _ _ _ hi rfl ⟨rfl, c, hc, rfl⟩
      have et : (signs x).take (i + 1) = (signs x).take i ++ [⟨#[c]⟩] := by
        have : (signs x)[i]? = some ⟨#[c]⟩ := by
          unfold signs
          rw [List.getElem?_map, Array.getElem?_toList, hc]
          rfl
        rw [List.take_add_one, this]
        rfl
      have fin : ∀ b, b = azS ⟨#[c]⟩ → ∃ acc, upd H D (.lst (((signs x).take i).map fun c => V.bl (azS c))) D = some (.lst acc) ∧ acc.length < sizeLine ∧
          upd (upd H D (.lst (((signs x).take i).map fun c => V.bl (azS c)))) D (.lst (acc ++ [V.bl b])) = upd H D (.lst (((signs x).take (i + 1)).map fun c => V.bl (azS c))) := by
        rintro b rfl
        refine ⟨_, upd_same, small1000 ?_, ?_⟩
        · rw [List.length_map, List.length_take]
          have : x.cps.size ≤ 60 := hx
          omega
        · rw [upd_upd, et, List.map_append]
          rfl
      refine ⟨rfl, yes_read ?_⟩
      refine iteT ⟨_, rfl, _, _, rfl, rfl, _, rfl, ite2 (fun h1 => ?_) fun h1 => ?_⟩
      · refine ⟨_, _, rfl, rfl, fin _ ?_⟩
        unfold azS
        rw [show (!decide (ltS ⟨#[c]⟩ "a")) = true from h1]
        rfl
      · refine fin _ ?_
        unfold azS
        rw [show (!decide (ltS ⟨#[c]⟩ "a")) = false from Bool.eq_false_iff.mpr h1]
        rfl
    · rintro _ rfl
      rw [← ln, List.take_length]
      refine ⟨D, (signs x).map azS, rfl, SqL.of (by rw [upd_same, List.map_map]; rfl), _, rfl, ?_⟩
      have s1 := same_new (o := .lst ((signs x).map fun c => V.bl (azS c))) hD
      have eh : heardD (.str x) = (((signs x).map azS).all id && ascT x) := by
        show heardT x = _
        unfold heardT
        rw [List.all_map]
        rfl
      cases ea : ((signs x).map azS).all id with
      | false =>
        rw [ea] at eh
        refine iteT ?_
        have := hq _ s1
        rw [eh] at this
        exact this
      | true =>
        rw [ea] at eh
        refine iteF ?_
        have sz : x.length ≤ sizeLine := Nat.le_trans hx (by decide)
        refine ⟨_, rfl, x, rfl, sz, fun p hp => ?_⟩
        refine ⟨_, rfl, x, rfl, hx, fun a c ha hc => ⟨a, _, c, rfl, upd_same, by omega, fun ys q y1 y2 y3 y4 fq => ?_⟩⟩
        have ok1 : ∀ k ∈ signs x, PyData.strOk k = true := fun k hk => by
          have z := List.all_eq_true.mp ea (azS k) (List.mem_map.mpr ⟨k, hk, rfl⟩)
          obtain ⟨n, _, rfl⟩ := List.mem_map.mp hk
          exact az_ok z
        have ok2 : ∀ k ∈ ys, PyData.strOk k = true := fun k hk => ok1 k (of_decide_eq_true ((y3 k).mp hk))
        have s2 := same_new (o := .lst ((signs x).map V.str)) hp
        have s3 := same_new (o := SetS P w a (fun k => decide (k ∈ signs x)) c) ha
        have s4 := same_new (o := .lst (ys.map V.str)) fq
        refine ⟨.list ((signs x).map .str), .list (ys.map .str), .lst (SqL.of (s4 _ _ (s3 _ _ upd_same))) (dp_strs _), .lst (SqL.of upd_same) (dp_strs _), shaped_strs ok1, shaped_strs ok2, ?_⟩
        have := hq _ (((s1.trans s2).trans s3).trans s4)
        rw [eh, Bool.true_and] at this
        rw [eqv_strs, sorted_is y1 y2 y3]
        exact this
  | _ => exact iteT (iteT (hq H (Same.refl _)))
end
end K58

set_option Elab.async false
set_option linter.all false
set_option maxRecDepth 100000
set_option maxHeartbeats 4000000
namespace K58
open PySem PySem.Spec PyProof.Rows L2 Rw
section
variable {P : Program} {w : World} {K : PySem.W.Frag} {mg : Str → Option Value} {base : Heap}
theorem tail_heard {F : Ends} {σ : L2.St} {H H1 : Hp} {x : Str} (h0 : σ[0]? = some (some (.str x))) (hx : x.length ≤ 60) (hall : (signs x).all azS = true) (s1 : Same H H1) (hq : ∀ H', Same H H' → F.rt (.bl (ascT x)) H') :
    tRet (tOp (rEqD K) (tCB rListText (tCons (tVar 0) tNil)) (tCB (rSortedText P w) (tCons (tCB (rSetText P w) (tCons (tVar 0) tNil)) tNil))) F σ H1 := by
  have sz : x.length ≤ sizeLine := Nat.le_trans hx (by decide)
  refine ⟨_, h0, x, rfl, sz, fun p hp => ?_⟩
  refine ⟨_, h0, x, rfl, hx, fun a c ha hc => ⟨a, _, c, rfl, upd_same, by omega, fun ys q y1 y2 y3 y4 fq => ?_⟩⟩
  have ok1 : ∀ k ∈ signs x, PyData.strOk k = true := fun k hk => by
    have z := List.all_eq_true.mp hall k hk
    obtain ⟨n, _, rfl⟩ := List.mem_map.mp hk
    exact az_ok z
  have ok2 : ∀ k ∈ ys, PyData.strOk k = true := fun k hk => ok1 k (of_decide_eq_true ((y3 k).mp hk))
  have s2 := same_new (o := .lst ((signs x).map V.str)) hp
  have s3 := same_new (o := SetS P w a (fun k => decide (k ∈ signs x)) c) ha
  have s4 := same_new (o := .lst (ys.map V.str)) fq
  refine ⟨.list ((signs x).map .str), .list (ys.map .str), .lst (SqL.of (s4 _ _ (s3 _ _ upd_same))) (dp_strs _), .lst (SqL.of upd_same) (dp_strs _), shaped_strs ok1, shaped_strs ok2, ?_⟩
  rw [eqv_strs, sorted_is y1 y2 y3]
  exact hq _ (((s1.trans s2).trans s3).trans s4)
theorem scLH : FnScope NLH ["it"] (defScope sLH) := ⟨rfl, rfl, rfl, by decide +kernel, rfl, by decide +kernel, by decide +kernel⟩
theorem ok_LH {f : Addr} {fd : FuncData} (F : FunD K "_law_is_heard" "_law_is_heard" (defArgs sLH) (defBody sLH) (defScope sLH) [] [] f fd) (T : Ts K mg) : FnOk P w K mg base CX0 1 f fd ["it"] spIsH := by
  refine F.ok scLH (fun vs H Q E h => ?_) (fun cdv A outer s H vs Q E hr h => ?_)
  · obtain ⟨_, _, _, rfl, _⟩ := h
    rfl
  obtain ⟨v, ok, d, rfl, hd, hl, hq⟩ := h
  refine ⟨_, PSs.nox (pss_cons (ps_if (PW.pt (pw_or (pt_not (pt_val (pe_callB (call_isiK (K := K) rfl) (by rfl) T.isin PyProof.Rows.boot_isinstance (pa_cons (pv 0) (pa_cons (pe_bltn rfl T.str bt_str (show RelV (.ty "str") _ from rfl)) pa_nil))))) (pw_or1 (pt_cmpR (op_neL0 hr.units0) (pe_lc (own := [("sign", 1)]) rfl scLH.nd (pi_str (pv 0)) (blkOk_by (N := NLH) (sc := defScope sLH) (by decide +kernel)) (fun _ _ _ _ _ => (pg_name (i := 1) scLH.nd rfl (by first | exact Or.inl rfl | exact Or.inr rfl))) (fun _ _ _ _ _ => (pts_one (pt_not (pt_chain op_le_str op_le_str pe_str (pv 1) pe_str)))) (fun _ _ _ _ _ => (pv 1))) (pe_lst pa_nil) (nomark _))))) (pss_one (ps_ret pe_bl)) pss_nil)
      (pss_one (ps_ret (pe_cmpR (op_eqD hr.units) (pe_callTy (call_listText rfl) (by rfl) T.list (by decide +kernel) (pa_cons (pv 0) pa_nil)) (pe_callB (cr_sortedText rfl) (by rfl) T.sorted (by decide +kernel) (pa_cons (pe_callTy (cr_setText rfl) (by rfl) T.set (by decide +kernel) (pa_cons (pv 0) pa_nil)) pa_nil)) (nomark _))))), ?_⟩
  refine ⟨_, rfl, v, .ty "str", _, _, _, rfl, .ty _, ty_of hd, kit_str K _, _, rfl, ?_⟩
  cases d with
  | str x =>
    cases hd
    have hx := hl x rfl
    refine iteF ?_
    refine ⟨_, rfl, x, rfl, fun D hD => ?_⟩
    have ln : (signs x).length = x.cps.size := signs_length x
    refine lc_it (walk_str (z := x)) (fun i H' => H' = upd H D (.lst ((((signs x).take i).filter fun c => !azS c).map V.str))) rfl (fun _ _ _ _ => trivial) ?_ ?_
    · rintro i _ _ _ hi rfl ⟨rfl, c, hc, rfl⟩
      have et : (signs x).take (i + 1) = (signs x).take i ++ [⟨#[c]⟩] := by
        have : (signs x)[i]? = some ⟨#[c]⟩ := by
          unfold signs
          rw [List.getElem?_map, Array.getElem?_toList, hc]
          rfl
        rw [List.take_add_one, this]
        rfl
      have small : ((((signs x).take i).filter fun c => !azS c).map V.str).length < sizeLine := by
        refine small1000 ?_
        rw [List.length_map]
        refine Nat.le_trans (List.length_filter_le _ _) ?_
        rw [List.length_take]
        have : x.cps.size ≤ 60 := hx
        omega
      have keep : ∀ b, b = azS ⟨#[c]⟩ → (if (!b) = true then tVar 1 [some (V.str x), some (V.str ⟨#[c]⟩)] (upd H D (.lst ((((signs x).take i).filter fun c => !azS c).map V.str))) fun y H4 => ∃ acc, H4 D = some (.lst acc) ∧ acc.length < sizeLine ∧
          upd H4 D (.lst (acc ++ [y])) = upd H D (.lst ((((signs x).take (i + 1)).filter fun c => !azS c).map V.str))
        else upd H D (.lst ((((signs x).take i).filter fun c => !azS c).map V.str)) = upd H D (.lst ((((signs x).take (i + 1)).filter fun c => !azS c).map V.str))) := by
        rintro b rfl
        rw [et, List.filter_append, List.filter_cons]
        cases e : azS ⟨#[c]⟩ with
        | true =>
          refine iteF ?_
          simp
        | false =>
          refine iteT ⟨_, rfl, _, upd_same, small, ?_⟩
          rw [upd_upd]
          simp
      refine ⟨rfl, _, rfl, _, _, rfl, rfl, _, rfl, ite2 (fun h1 => ?_) fun h1 => ?_⟩
      · refine ⟨_, _, rfl, rfl, _, rfl, keep _ ?_⟩
        unfold azS
        rw [show (!decide (ltS ⟨#[c]⟩ "a")) = true from h1]
        rfl
      · refine ⟨_, rfl, keep _ ?_⟩
        unfold azS
        rw [show (!decide (ltS ⟨#[c]⟩ "a")) = false from Bool.eq_false_iff.mpr h1]
        rfl
    · rintro _ rfl
      rw [← ln, List.take_length]
      have s1 := same_new (o := .lst (((signs x).filter fun c => !azS c).map V.str)) hD
      refine ⟨Nat.zero_le _, fun q fq => ?_⟩
      have s2 := same_new (o := .lst []) fq
      refine ⟨D, q, _, rfl, rfl, SqL.of (s2 _ _ upd_same), SqL.of upd_same, _, rfl, ?_⟩
      have eh : heardD (.str x) = ((signs x).all azS && ascT x) := rfl
      have em : (!(((signs x).filter fun c => !azS c).map V.str).isEmpty) = !((signs x).all azS) := by
        congr 1
        rw [Bool.eq_iff_iff, List.isEmpty_iff, List.map_eq_nil_iff, List.filter_eq_nil_iff, List.all_eq_true]
        simp
      rw [em]
      cases ea : (signs x).all azS with
      | false =>
        rw [ea] at eh
        refine iteT ?_
        have := hq _ (s1.trans s2)
        rw [eh] at this
        exact this
      | true =>
        rw [ea] at eh
        refine iteF (tail_heard rfl hx ea (s1.trans s2) fun H' s3 => ?_)
        have := hq _ s3
        rw [eh] at this
        exact this
  | _ => exact iteT (iteT (hq H (Same.refl _)))
end
end K58

set_option Elab.async false
set_option linter.all false
set_option maxRecDepth 100000
set_option maxHeartbeats 4000000
namespace K58
open PySem PySem.Spec PyProof.Rows L2 Rw
abbrev sAreC : Stmt := top 8
abbrev sBad : Stmt := top 22
abbrev NAreC : List Str := ["thing", "number"]
abbrev NBad : List Str := ["letters_now", "classes_now", "n"]
def natD : PyData → Bool
  | .int i => decide (i ≥ 0)
  | _ => false
def classesD : PyData → Bool
  | .tuple ds => !ds.isEmpty && ds.all natD
  | _ => false
def spAreC : Sp := fun vs H Q _ => ∃ (v : V) (ok : Addr → Prop) (d : PyData), vs = [v] ∧ Dq H ok v d ∧ (∀ ds, d = .tuple ds → ds.length ≤ 1000) ∧ ∀ H', Same H H' → Q (.bl (classesD d)) H'
def badV (dl dc : PyData) : V := if heardD dl = true then if classesD dc = true then .non else .str "classes" else .str "letters"
def spBad : Sp := fun vs H Q _ => ∃ (v u : V) (ok : Addr → Prop) (dl dc : PyData), vs = [v, u] ∧ Dq H ok v dl ∧ Dq H ok u dc ∧ (∀ x, dl = .str x → x.length ≤ 60) ∧ (∀ ds, dc = .tuple ds → ds.length ≤ 1000) ∧ ∀ H', Same H H' → Q (badV dl dc) H'
theorem Dq.to {H H' : Hp} {ok : Addr → Prop} {v : V} {d : PyData} (h : Dq H ok v d) (s : Same H H') : Dq H' ok v d := h.mono fun a o k z => ⟨s a o z, k⟩
section
variable {P : Program} {w : World} {K : PySem.W.Frag} {mg : Str → Option Value} {base : Heap}
theorem scAreC : FnScope NAreC ["thing"] (defScope sAreC) := ⟨rfl, rfl, rfl, by decide +kernel, rfl, by decide +kernel, by decide +kernel⟩
theorem ok_areC {f fI : Addr} {fd fdI : FuncData} (F : FunD K "are_classes" "are_classes" (defArgs sAreC) (defBody sAreC) (defScope sAreC) [] [] f fd) (T : Ts K mg)
    (FI : FunD K "is_integer" "is_integer" (defArgs sIsI) (defBody sIsI) (defScope sIsI) [] [] fI fdI) (mI : mg "is_integer" = some (.ref fI)) : FnOk P w K mg base CX0 2 f fd ["thing"] spAreC := by
  have GI : FnOk P w K mg base CX0 1 fI fdI ["thing"] spIsI := ok_isI FI T
  have bI : Binds K fdI ["thing"] [] := FI.bindsN fun _ _ _ _ _ _ us hl => match us, hl with | [_], _ => rfl
  refine F.ok scAreC (fun vs H Q E h => ?_) (fun cdv A outer s H vs Q E hr h => ?_)
  · obtain ⟨_, _, _, rfl, _⟩ := h
    rfl
  obtain ⟨v, ok, d, rfl, hd, hl, hq⟩ := h
  refine ⟨_, PSs.nox (pss_cons (ps_if (PW.pt (pw_or (pt_not (pt_val (pe_callB (call_isiK (K := K) rfl) (by rfl) T.isin PyProof.Rows.boot_isinstance (pa_cons (pv 0) (pa_cons (pe_bltn rfl T.tuple bt_tuple (show RelV (.ty "tuple") _ from rfl)) pa_nil))))) (pw_or1 (pt_cmpR (op_eqT0 hr.units0) (pv 0) (pe_tup pa_nil) (nomark _))))) (pss_one (ps_ret pe_bl)) pss_nil)
      (pss_one (ps_ret (pe_callB (cr_allK (K := K) rfl rfl) (by rfl) T.all (by decide +kernel) (pa_cons (pe_lc (own := [("number", 1)]) rfl scAreC.nd (pi_tup (pv 0)) (blkOk_by (N := NAreC) (sc := defScope sAreC) (by decide +kernel)) (fun _ _ _ _ _ => (pg_name (i := 1) scAreC.nd rfl (by first | exact Or.inl rfl | exact Or.inr rfl))) (fun _ _ _ _ _ => pts_nil) (fun _ _ _ _ _ => (pe_and (pe_call GI (hr.mono (by decide)) rfl mI FI.kp bI .nil pass0 (pa_cons (pv 1) pa_nil)) (pe_one (pe_cmpR op_ge (pv 1) pe_int (nomark _)))))) pa_nil))))), ?_⟩
  refine ⟨_, rfl, v, .ty "tuple", _, _, _, rfl, .ty _, ty_of hd, kit_tup K _, _, rfl, ?_⟩
  cases d with
  | tuple ds =>
    cases hd with
    | @tup a xs _ ha hx hxs =>
    have hl' := hl ds rfl
    have ln := hxs.len
    refine iteF ?_
    refine ⟨_, rfl, Nat.zero_le _, fun q fq => ?_⟩
    have s1 := same_new (o := .tup []) fq
    refine ⟨a, q, xs, rfl, rfl, SqT.of (s1 _ _ hx), SqT.of upd_same, _, rfl, ?_⟩
    have ee : xs.isEmpty = ds.isEmpty := by
      cases hxs <;> rfl
    rw [ee]
    cases e : ds.isEmpty with
    | true =>
      refine iteT ?_
      have := hq _ s1
      rw [show classesD (.tuple ds) = false by show (!ds.isEmpty && ds.all natD) = false; rw [e]; rfl] at this
      exact this
    | false =>
      refine iteF ?_
      generalize eH : upd H q (.tup []) = H1 at s1
      refine ⟨_, rfl, a, rfl, ⟨_, SqT.of (s1 _ _ hx)⟩, fun D hD => ?_⟩
      have hxs1 : DqAll H1 ok xs ds := hxs.mono fun a o k z => ⟨s1 a o z, k⟩
      have s2 : ∀ ys, Same H1 (upd H1 D (.lst ys)) := fun ys => same_new hD
      refine lc_tup (xs := xs) (fun i H' => H' = upd H1 D (.lst ((ds.take i).map fun d => V.bl (natD d)))) rfl ?_ ?_ ?_
      · rintro i _ _ rfl
        exact SqT.of (s2 _ _ _ (s1 _ _ hx))
      · rintro i x _ hxi rfl
        obtain ⟨d, hdi, hdx⟩ := hxs1.at hxi
        have et : ds.take (i + 1) = ds.take i ++ [d] := by rw [List.take_add_one, hdi]; rfl
        have fin : ∃ acc, upd H1 D (.lst ((ds.take i).map fun d => V.bl (natD d))) D = some (.lst acc) ∧ acc.length < sizeLine ∧
            upd (upd H1 D (.lst ((ds.take i).map fun d => V.bl (natD d)))) D (.lst (acc ++ [V.bl (natD d)])) = upd H1 D (.lst ((ds.take (i + 1)).map fun d => V.bl (natD d))) := by
          refine ⟨_, upd_same, small1000 ?_, ?_⟩
          · rw [List.length_map, List.length_take]
            omega
          · rw [upd_upd, et, List.map_append]
            rfl
        refine ⟨rfl, yes_read ?_⟩
        refine iteT ⟨_, rfl, x, ok, d, rfl, Dq.to hdx (s2 _), _, rfl, ?_⟩
        cases hdx with
        | int i => exact iteT ⟨_, rfl, _, _, rfl, rfl, fin⟩
        | _ => exact iteF fin
      · rintro _ rfl
        rw [ln, List.take_length]
        refine ⟨D, ds.map natD, rfl, SqL.of (by rw [upd_same, List.map_map]; rfl), ?_⟩
        have := hq _ (s1.trans (s2 (ds.map fun d => V.bl (natD d))))
        rw [show classesD (.tuple ds) = (ds.map natD).all id by show (!ds.isEmpty && ds.all natD) = _; rw [e, List.all_map]; rfl] at this
        exact this
  | _ => exact iteT (iteT (hq H (Same.refl _)))
theorem scBad : FnScope NBad ["letters_now", "classes_now"] (defScope sBad) := ⟨rfl, rfl, rfl, by decide +kernel, rfl, by decide +kernel, by decide +kernel⟩
theorem ok_bad {f fW fH : Addr} {fd fdW fdH : FuncData} (F : FunD K "_law_bad" "_law_bad" (defArgs sBad) (defBody sBad) (defScope sBad) [] [] f fd) (T : Ts K mg)
    (FW : FunD K "_law_is_whole" "_law_is_whole" (defArgs sWhole) (defBody sWhole) (defScope sWhole) [] [] fW fdW) (mW : mg "_law_is_whole" = some (.ref fW))
    (FH : FunD K "_law_is_heard" "_law_is_heard" (defArgs sLH) (defBody sLH) (defScope sLH) [] [] fH fdH) (mH : mg "_law_is_heard" = some (.ref fH)) : FnOk P w K mg base CX0 2 f fd ["letters_now", "classes_now"] spBad := by
  have GW : FnOk P w K mg base CX0 1 fW fdW ["it"] spIsI := ok_whole FW T
  have GH : FnOk P w K mg base CX0 1 fH fdH ["it"] spIsH := ok_LH FH T
  have bW : Binds K fdW ["it"] [] := FW.bindsN fun _ _ _ _ _ _ us hl => match us, hl with | [_], _ => rfl
  have bH : Binds K fdH ["it"] [] := FH.bindsN fun _ _ _ _ _ _ us hl => match us, hl with | [_], _ => rfl
  refine F.ok scBad (fun vs H Q E h => ?_) (fun cdv A outer s H vs Q E hr h => ?_)
  · obtain ⟨_, _, _, _, _, rfl, _⟩ := h
    rfl
  obtain ⟨v, u, ok, dl, d, rfl, hdl, hd, hll, hl, hq⟩ := h
  refine ⟨_, PSs.nox (pss_cons (ps_if (pt_not (pt_val (pe_call GH (hr.mono (by decide)) rfl mH FH.kp bH .nil pass0 (pa_cons (pv 0) pa_nil)))) (pss_one (ps_ret pe_str)) pss_nil)
      (pss_cons (ps_if (PW.pt (pw_or (pt_not (pt_val (pe_callB (call_isiK (K := K) rfl) (by rfl) T.isin PyProof.Rows.boot_isinstance (pa_cons (pv 1) (pa_cons (pe_bltn rfl T.tuple bt_tuple (show RelV (.ty "tuple") _ from rfl)) pa_nil))))) (pw_or1 (pt_cmpR (op_eqT0 hr.units0) (pv 1) (pe_tup pa_nil) (nomark _))))) (pss_one (ps_ret pe_str)) pss_nil)
      (pss_one (ps_ret (pe_ifExp (pt_cmpR (op_neL0 hr.units0) (pe_lc (own := [("n", 2)]) rfl scBad.nd (pi_tup (pv 1)) (blkOk_by (N := NBad) (sc := defScope sBad) (by decide +kernel)) (fun _ _ _ _ _ => (pg_name (i := 2) scBad.nd rfl (by first | exact Or.inl rfl | exact Or.inr rfl))) (fun _ _ _ _ _ => (pts_one (PW.pt (pw_or (pt_not (pt_val (pe_call GW (hr.mono (by decide)) rfl mW FW.kp bW .nil pass0 (pa_cons (pv 2) pa_nil)))) (pw_or1 (pt_cmpR op_lt (pv 2) pe_int (nomark _))))))) (fun _ _ _ _ _ => (pv 2))) (pe_lst pa_nil) (nomark _)) pe_str pe_non))))), ?_⟩
  refine ⟨_, rfl, v, ok, dl, rfl, hdl, hll, fun H1 s1 => ⟨_, rfl, ?_⟩⟩
  cases eh : heardD dl with
  | false =>
    refine iteT ?_
    have := hq _ s1
    rw [show badV dl d = .str "letters" by unfold badV; rw [eh]; rfl] at this
    exact this
  | true =>
    refine iteF ?_
    have bv : badV dl d = if classesD d = true then .non else .str "classes" := by unfold badV; rw [eh]; rfl
    have hd1 := Dq.to hd s1
    refine ⟨_, rfl, u, .ty "tuple", _, _, _, rfl, .ty _, ty_of hd1, kit_tup K _, _, rfl, ?_⟩
    cases d with
    | tuple ds =>
      cases hd1 with
      | @tup a xs _ ha hx hxs =>
      have hl' := hl ds rfl
      have ln := hxs.len
      refine iteF ?_
      refine ⟨_, rfl, Nat.zero_le _, fun q fq => ?_⟩
      have s2 := same_new (o := .tup []) fq
      refine ⟨a, q, xs, rfl, rfl, SqT.of (s2 _ _ hx), SqT.of upd_same, _, rfl, ?_⟩
      have ee : xs.isEmpty = ds.isEmpty := by
        cases hxs <;> rfl
      rw [ee]
      cases e : ds.isEmpty with
      | true =>
        refine iteT ?_
        have := hq _ (s1.trans s2)
        rw [bv, show classesD (.tuple ds) = false by show (!ds.isEmpty && ds.all natD) = false; rw [e]; rfl] at this
        exact this
      | false =>
        refine iteF ?_
        generalize eH : upd H1 q (.tup []) = H2 at s2
        refine ⟨_, rfl, a, rfl, ⟨_, SqT.of (s2 _ _ hx)⟩, fun D hD => ?_⟩
        have hxs1 : DqAll H2 ok xs ds := hxs.mono fun a o k z => ⟨s2 a o z, k⟩
        have s3 : ∀ ys, Same H2 (upd H2 D (.lst ys)) := fun ys => same_new hD
        refine lc_tup (xs := xs) (fun i H' => ∃ ys, H' = upd H2 D (.lst ys) ∧ ys.length ≤ i ∧ ys.isEmpty = (ds.take i).all natD) ⟨[], rfl, Nat.le_refl _, rfl⟩ ?_ ?_ ?_
        · rintro i _ _ ⟨ys, rfl, _, _⟩
          exact SqT.of (s3 _ _ _ (s2 _ _ hx))
        · rintro i x _ hxi ⟨ys, rfl, ly, ey⟩
          obtain ⟨d, hdi, hdx⟩ := hxs1.at hxi
          have li : i < ds.length := (List.getElem?_eq_some_iff.mp hdi).1
          have et : (ds.take (i + 1)).all natD = ((ds.take i).all natD && natD d) := by
            rw [List.take_add_one, hdi, List.all_append]
            simp
          have take : natD d = false → ∃ acc, upd H2 D (.lst ys) D = some (.lst acc) ∧ acc.length < sizeLine ∧ ∃ ys', upd (upd H2 D (.lst ys)) D (.lst (acc ++ [x])) = upd H2 D (.lst ys') ∧ ys'.length ≤ i + 1 ∧ ys'.isEmpty = (ds.take (i + 1)).all natD := fun e => by
            refine ⟨ys, upd_same, small1000 (by omega), ys ++ [x], by rw [upd_upd], by simp; exact ly, ?_⟩
            rw [et, e, Bool.and_false]
            simp
          have skip : natD d = true → ∃ ys', upd H2 D (.lst ys) = upd H2 D (.lst ys') ∧ ys'.length ≤ i + 1 ∧ ys'.isEmpty = (ds.take (i + 1)).all natD := fun e => by
            refine ⟨ys, rfl, by omega, ?_⟩
            rw [et, e, Bool.and_true]
            exact ey
          refine ⟨rfl, _, rfl, x, ok, d, rfl, Dq.to hdx (s3 _), _, rfl, ?_⟩
          cases hdx with
          | int z =>
            refine iteF ⟨_, rfl, _, _, rfl, rfl, _, rfl, ite2 (fun hz => ?_) fun hz => ?_⟩
            · have hz' : z < 0 := of_decide_eq_true hz
              exact ⟨_, rfl, take (decide_eq_false (by omega))⟩
            · have hz' : ¬ z < 0 := fun c => hz (decide_eq_true c)
              exact skip (decide_eq_true (by omega))
          | _ => exact iteT (iteT ⟨_, rfl, take rfl⟩)
        · rintro _ ⟨ys, rfl, ly, ey⟩
          rw [ln, List.take_length] at ey
          refine ⟨Nat.zero_le _, fun q2 fq2 => ?_⟩
          have s4 := same_new (o := .lst []) fq2
          refine ⟨D, q2, ys, rfl, rfl, SqL.of (s4 _ _ upd_same), SqL.of upd_same, _, rfl, ?_⟩
          have := hq _ (((s1.trans s2).trans (s3 ys)).trans s4)
          rw [bv, show classesD (.tuple ds) = ds.all natD by show (!ds.isEmpty && ds.all natD) = _; rw [e]; rfl, ← ey] at this
          cases ec : ys.isEmpty with
          | true =>
            rw [ec] at this
            exact iteF this
          | false =>
            rw [ec] at this
            exact iteT this
    | _ =>
      have := hq _ s1
      rw [bv] at this
      exact iteT (iteT this)
end
end K58

set_option Elab.async false
set_option linter.all false
set_option maxRecDepth 100000
set_option maxHeartbeats 4000000
/-! plain: which number a thing has, by when it was first met -/
namespace Rw
open PySem PySem.Spec PyProof.Rows L2
section
variable {α : Type} [DecidableEq α]
def meet (acc : List α) (m : α) : List α := if m ∈ acc then acc else acc ++ [m]
def firsts (l : List α) : List α := l.foldl meet []
theorem firsts_snoc (l : List α) (m : α) : firsts (l ++ [m]) = meet (firsts l) m := by
  unfold firsts
  rw [List.foldl_append]
  rfl
theorem foldl_meet_mem : ∀ (l acc : List α) (k : α), k ∈ l.foldl meet acc ↔ k ∈ acc ∨ k ∈ l
  | [], acc, k => by simp
  | m :: r, acc, k => by
    rw [List.foldl_cons, foldl_meet_mem r (meet acc m) k]
    unfold meet
    by_cases h : m ∈ acc
    · rw [if_pos h, List.mem_cons]
      constructor
      · rintro (a | a)
        · exact .inl a
        · exact .inr (.inr a)
      · rintro (a | a | a)
        · exact .inl a
        · exact .inl (a ▸ h)
        · exact .inr a
    · rw [if_neg h, List.mem_append, List.mem_singleton, List.mem_cons, or_assoc]
theorem mem_firsts (l : List α) (k : α) : k ∈ firsts l ↔ k ∈ l := by
  unfold firsts
  rw [foldl_meet_mem]
  simp
theorem foldl_meet_len : ∀ (l acc : List α), (l.foldl meet acc).length ≤ acc.length + l.length
  | [], acc => by simp
  | m :: r, acc => by
    rw [List.foldl_cons]
    refine Nat.le_trans (foldl_meet_len r (meet acc m)) ?_
    unfold meet
    split
    · simp only [List.length_cons]; omega
    · simp only [List.length_append, List.length_cons, List.length_nil]; omega
theorem firsts_len (l : List α) : (firsts l).length ≤ l.length := by
  have := foldl_meet_len l []
  show (l.foldl meet []).length ≤ l.length
  simpa using this
/-- the number of m among xs -/
def ix : List α → α → Nat
  | [], _ => 0
  | x :: r, m => if x = m then 0 else ix r m + 1
theorem ix_same (x : α) (r : List α) : ix (x :: r) x = 0 := if_pos rfl
theorem ix_other {x m : α} (r : List α) (h : ¬ x = m) : ix (x :: r) m = ix r m + 1 := if_neg h
theorem ix_at : ∀ {xs : List α} {m : α}, m ∈ xs → xs[ix xs m]? = some m ∧ ∀ j, j < ix xs m → xs[j]? ≠ some m
  | x :: r, m, h => by
    unfold ix
    by_cases e : x = m
    · rw [if_pos e]
      exact ⟨by rw [e]; rfl, fun j hj => absurd hj (Nat.not_lt_zero j)⟩
    · rw [if_neg e]
      obtain ⟨h1, h2⟩ := ix_at ((List.mem_cons.mp h).resolve_left fun z => e z.symm)
      refine ⟨h1, fun j hj => ?_⟩
      cases j with
      | zero => exact fun z => e (Option.some.inj z)
      | succ j => exact h2 j (Nat.lt_of_succ_lt_succ hj)
def norm (ms : List α) : List Nat := ms.map (ix (firsts ms))
end
/-- the dict {m: its number} -/
def numb : Nat → List Int → List (Key × V)
  | _, [] => []
  | j, m :: r => (.inl m, .int (j : Int)) :: numb (j + 1) r
theorem numb_len : ∀ (j : Nat) (fs : List Int), (numb j fs).length = fs.length
  | _, [] => rfl
  | j, m :: r => by rw [numb, List.length_cons, List.length_cons, numb_len (j + 1) r]
theorem numb_val : ∀ (j : Nat) (fs : List Int) (m : Int), valV (numb j fs) (Sum.inl m : Key) = if m ∈ fs then some (.int ((j + ix fs m : Nat) : Int)) else none
  | _, [], m => rfl
  | j, x :: r, m => by
    have ih := numb_val (j + 1) r m
    by_cases e : x = m
    · subst e
      rw [if_pos (by simp)]
      refine (valV_pos rfl).trans ?_
      rw [ix_same]
      rfl
    · have ne : ¬ (Sum.inl x : Key) = Sum.inl m := fun z => e (Sum.inl.inj z)
      refine (valV_neg ne).trans ?_
      rw [ih, ix_other r e]
      by_cases h : m ∈ r
      · rw [if_pos h, if_pos (by simp [h])]
        congr 3
        omega
      · rw [if_neg h, if_neg (by simp [h]; exact fun z => e z.symm)]
theorem numb_snoc : ∀ (j : Nat) (fs : List Int) (m : Int), numb j (fs ++ [m]) = numb j fs ++ [(.inl m, .int ((j + fs.length : Nat) : Int))]
  | j, [], m => rfl
  | j, x :: r, m => by
    rw [List.cons_append, numb, numb, numb_snoc (j + 1) r m, List.cons_append, List.length_cons]
    congr 5
    omega
theorem numb_put {fs : List Int} {m : Int} (h : m ∉ fs) : putK (numb 0 fs) (Sum.inl m : Key) (.int (fs.length : Int)) = numb 0 (fs ++ [m]) := by
  rw [putK_new _ (by rw [numb_val, if_neg h]), numb_snoc, Nat.zero_add]
end Rw

set_option Elab.async false
set_option linter.all false
set_option maxRecDepth 100000
set_option maxHeartbeats 4000000
/-! d.setdefault(t, x): the keys tuples -/
namespace Rw
open PySem PySem.Spec PyProof.Rows L2
/-- d.setdefault(y, z), y a tuple of ints and texts -/
def tDSetT (td ty tx : TE) : TE := fun σ H Q => td σ H fun x H1 => ∃ a, x = .ref a ∧ IsD H1 a ∧ ty σ H1 fun y H2 => tx σ H2 fun z H3 => ∃ (kvs : List (List Key × V)) (k : List Key) (b : Addr), H3 a = some (.dT kvs) ∧ y = .ref b ∧ H3 b = some (.tup (k.map kV)) ∧ kvs.length < sizeLine ∧
  (∀ v, valV kvs k = some v → Q v H3) ∧ (valV kvs k = none → Q z (upd H3 a (.dT (putK kvs k z))))
section
variable {X : Cx} {o e f : Expr} {td ty tx : TE} {apos cpos : Pos}
theorem pe_dsetdT (hu : X.A.units + 1 < cLine) (ho : PE X o td) (he : PE X e ty) (hf : PE X f tx) (m : M2 X o "setdefault" apos e f cpos) : PE X (.Call (.Attribute o "setdefault" apos) [e, f] [] cpos) (tDSetT td ty tx) := by
  refine ⟨fun pins s σ H Q I h => ?_⟩
  refine wpAny_Call_method m.base m.few m.line (PySem.F.plainAttrs_dict) PySem.F.slot_dict_setdefault PySem.F.type_dict_setdefault (thn (ho.run pins s σ H _ I h) fun u s1 ⟨x, H1, I1, rx, a, ex, d, q1⟩ => ?_)
  subst ex
  cases rx
  obtain ⟨t1, t2, _⟩ := isD_at I1 d
  refine ⟨t1, t2, ?_⟩
  rw [m.trees]
  refine (Calls.callWith_builtin rfl (Calls.evalArgs_plain (Calls.spliced_cons (thn (he.run pins s1 σ H1 _ I1 q1) fun iv s2 ⟨y, H2, I2, ry, q2⟩ =>
    Calls.spliced_cons (thn (hf.run pins s2 σ H2 _ I2 q2) fun fv s3 ⟨z, H3, I3, rz, kvs, k, b, ea, ey, eb, hl, q3, q4⟩ => Calls.spliced_nil ?_)))))
  subst ey
  cases ry
  obtain ⟨zl, hd, xs, rel, dd⟩ := dt_of I3.hok ea
  have ln : xs.length ≤ sizeLine := by
    rw [← Paired.length rel]
    exact zl
  refine call_setdefault_heap (hsz := ln) (tupleKind_room_in1 hu) (key_of I3.hok eb) hd dd (fun p hp => ?_) fun hn h1 dd1 sb => ?_
  · have q := rel.val k
    rw [hp] at q
    cases q0 : valV kvs k with
    | none =>
      rw [q0] at q
      exact (show False from q).elim
    | some v0 =>
      rw [q0] at q
      exact ⟨v0, H3, I3.tok _, q, q3 v0 q0⟩
  · have q := rel.val k
    rw [hn] at q
    cases q0 : valV kvs k with
    | some v0 =>
      rw [q0] at q
      exact (show False from q).elim
    | none =>
      have ln2 : (putK kvs k z).length ≤ sizeLine := by
        have := length_putK kvs k z
        omega
      obtain ⟨ob, es, ep, g1, g2, g3, g4, _, g5⟩ := dd1
      refine ⟨z, upd H3 a (.dT (putK kvs k z)), d_write I3 (by rw [ea]; exact True.intro) sb ⟨ob, g1⟩ ⟨ln2, hd, _, (rel.put k eb rz).keeps fun c ys ec => ?_, ob, es, ep, g1, g2, g3, g4, g5⟩, rz, q4 q0⟩
      rw [upd_ne (ne_of ec ea (fun z => nomatch z))]
      exact ec
end
end Rw

set_option Elab.async false
set_option linter.all false
set_option maxRecDepth 100000
set_option maxHeartbeats 4000000
namespace K58
open PySem PySem.Spec PyProof.Rows L2 Rw
abbrev sPA : Stmt := top 9
abbrev NPA : List Str := ["marks", "known", "mark"]
abbrev nums (ns : List Nat) : List V := ns.map fun (n : Nat) => V.int (n : Int)
def spPA (K : PySem.W.Frag) : Sp := fun vs H Q _ => ∃ (a : Addr) (ms : List Int), vs = [.ref a] ∧ H a = some (.tup (ms.map .int)) ∧ ms.length ≤ 1000 ∧ ∀ p H', Same H H' → H p = none → H' p = some (.tup (nums (norm ms))) → Q (.ref p) H'
def pairK (p : Int × Int) : List Key := [.inl p.1, .inl p.2]
def spPA2 : Sp := fun vs H Q _ => ∃ (a : Addr) (ms : List (Int × Int)) (ts : List Addr), vs = [.ref a] ∧ H a = some (.lst (ts.map .ref)) ∧ Paired (fun t m => H t = some (.tup ((pairK m).map kV))) ts ms ∧ ms.length ≤ 1000 ∧
  ∀ p H', Same H H' → H p = none → H' p = some (.tup (nums (norm ms))) → Q (.ref p) H'
section
variable {P : Program} {w : World} {K : PySem.W.Frag} {mg : Str → Option Value} {base : Heap}
theorem scPA : FnScope NPA ["marks"] (defScope sPA) := ⟨rfl, rfl, rfl, by decide +kernel, rfl, by decide +kernel, by decide +kernel⟩
theorem ok_PA {f : Addr} {fd : FuncData} (F : FunD K "put_anew" "put_anew" (defArgs sPA) (defBody sPA) (defScope sPA) [] [] f fd) (T : Ts K mg) : FnOk P w K mg base CX0 1 f fd ["marks"] (spPA K) := by
  refine F.ok scPA (fun vs H Q E h => ?_) (fun cdv A outer s H vs Q E hr h => ?_)
  · obtain ⟨_, _, rfl, _⟩ := h
    rfl
  obtain ⟨a, ms, rfl, ha, hl, hq⟩ := h
  refine ⟨_, PSs.nox (pss_cons (ps_set (i := 1) scPA.nd rfl (by first | exact Or.inl rfl | exact Or.inr rfl) pe_dnewK)
      (pss_cons (ps_for PassesOwn.never rfl (pi_tup (pv 0)) (pg_name (i := 2) scPA.nd rfl (by first | exact Or.inl rfl | exact Or.inr rfl))
        (pss_one (ps_expr (pe_dsetd (pv 1) (pv 2) (pe_callB call_lenD (by rfl) T.len PySem.boot_len (pa_cons (pv 1) pa_nil)) ⟨by rfl, by rfl, by rfl, by rfl⟩))))
      (pss_one (ps_ret (pe_callTy call_tuple_of (by rfl) T.tuple (by decide +kernel) (pa_cons (pe_lc (own := [("mark", 2)]) rfl scPA.nd (pi_tup (pv 0)) (blkOk_by (N := NPA) (sc := defScope sPA) (by decide +kernel)) (fun _ _ _ _ _ => (pg_name (i := 2) scPA.nd rfl (by first | exact Or.inl rfl | exact Or.inr rfl))) (fun _ _ _ _ _ => pts_nil) (fun _ _ _ _ _ => (pe_dget (hu_of hr) (pv 1) (pv 2) (fun _ _ => rfl)))) pa_nil)))))), ?_⟩
  intro d hd
  have s0 : ∀ kvs, Same H (upd H d (.dK kvs)) := fun kvs => same_new hd
  refine ⟨_, rfl, a, rfl, ⟨_, SqT.of (s0 _ _ _ ha)⟩, for_tup (xs := ms.map .int) (fun i σ' H' => ∃ c, σ' = [some (.ref a), some (.ref d), c] ∧ H' = upd H d (.dK (numb 0 (firsts (ms.take i))))) ⟨none, rfl, rfl⟩ ?_ ?_ ?_⟩
  · rintro i _ _ _ ⟨c, rfl, rfl⟩
    exact SqT.of (s0 _ _ _ ha)
  · rintro i x _ _ hx ⟨c, rfl, rfl⟩
    rw [List.getElem?_map] at hx
    obtain ⟨m, hm, rfl⟩ := Option.map_eq_some_iff.mp hx
    have et : firsts (ms.take (i + 1)) = meet (firsts (ms.take i)) m := by rw [List.take_add_one, hm]; exact firsts_snoc _ _
    have fl : (firsts (ms.take i)).length ≤ 1000 := Nat.le_trans (firsts_len _) (Nat.le_trans (List.length_take_le' _ _) hl)
    refine ⟨_, rfl, d, rfl, .inl ⟨_, .inl upd_same⟩, _, rfl, _, rfl, d, _, rfl, upd_same, _, .inl m, upd_same, rfl, by rw [numb_len]; exact small1000 fl, fun v hv => ?_, fun hn => ?_⟩
    · rw [numb_val] at hv
      by_cases h : m ∈ firsts (ms.take i)
      · refine ⟨_, rfl, ?_⟩
        rw [et]
        unfold meet
        rw [if_pos h]
      · rw [if_neg h] at hv
        cases hv
    · rw [numb_val] at hn
      by_cases h : m ∈ firsts (ms.take i)
      · rw [if_pos h] at hn
        cases hn
      · refine ⟨_, rfl, ?_⟩
        rw [et, upd_upd, numb_len, numb_put h]
        unfold meet
        rw [if_neg h]
  · rintro _ _ ⟨c, rfl, rfl⟩
    rw [List.length_map, List.take_length]
    have s1 := s0 (numb 0 (firsts ms))
    generalize eH : upd H d (.dK (numb 0 (firsts ms))) = H1 at s1
    have hd1 : H1 d = some (.dK (numb 0 (firsts ms))) := by rw [← eH, upd_same]
    refine ⟨_, rfl, a, rfl, ⟨_, SqT.of (s1 _ _ ha)⟩, fun D hD => ?_⟩
    have s2 : ∀ ys, Same H1 (upd H1 D (.lst ys)) := fun ys => same_new hD
    refine lc_tup (xs := ms.map .int) (fun i H' => H' = upd H1 D (.lst ((ms.take i).map fun m => V.int (ix (firsts ms) m : Nat)))) rfl ?_ ?_ ?_
    · rintro i _ _ rfl
      exact SqT.of (s2 _ _ _ (s1 _ _ ha))
    · rintro i x _ hx rfl
      rw [List.getElem?_map] at hx
      obtain ⟨m, hm, rfl⟩ := Option.map_eq_some_iff.mp hx
      have et : ms.take (i + 1) = ms.take i ++ [m] := by rw [List.take_add_one, hm]; rfl
      have hmem : m ∈ firsts ms := (mem_firsts ms m).mpr (List.mem_of_getElem? hm)
      have hg : ∀ ys, DGet (upd H1 D (.lst ys)) d (.int m) (some (.int (ix (firsts ms) m : Nat))) := fun ys => by
        have e := DGet.k (k := .inl m) (s2 ys _ _ hd1)
        rw [numb_val, if_pos hmem, Nat.zero_add] at e
        exact e
      refine ⟨rfl, yes_read ?_⟩
      refine iteT ⟨_, rfl, _, rfl, d, _, rfl, hg _, _, upd_same, small1000 ?_, ?_⟩
      · rw [List.length_map]
        exact Nat.le_trans (List.length_take_le' _ _) hl
      · rw [upd_upd, et, List.map_append]
        rfl
    · rintro _ rfl
      rw [List.length_map, List.take_length]
      refine ⟨D, _, rfl, .inl ⟨SqL.of upd_same, fun p hp => ?_⟩⟩
      have fp : H p = none := (s1.trans (s2 _)).free hp
      refine hq p _ ((s1.trans (s2 _)).trans (same_new hp)) fp ?_
      rw [upd_same]
      unfold norm nums
      rw [List.map_map]
      rfl
end
end K58

set_option Elab.async false
set_option linter.all false
set_option maxRecDepth 100000
set_option maxHeartbeats 4000000
namespace Rw
open PySem PySem.Spec PyProof.Rows L2
section
variable {α κ : Type} [DecidableEq α] [DecidableEq κ] (key : α → κ) (inj : ∀ a b, key a = key b → a = b)
/-- the dict {key m: its number} -/
def numbG : Nat → List α → List (κ × V)
  | _, [] => []
  | j, m :: r => (key m, .int (j : Int)) :: numbG (j + 1) r
theorem numbG_len : ∀ (j : Nat) (fs : List α), (numbG key j fs).length = fs.length
  | _, [] => rfl
  | j, m :: r => by rw [numbG, List.length_cons, List.length_cons, numbG_len (j + 1) r]
theorem numbG_snoc : ∀ (j : Nat) (fs : List α) (m : α), numbG key j (fs ++ [m]) = numbG key j fs ++ [(key m, .int ((j + fs.length : Nat) : Int))]
  | j, [], m => rfl
  | j, x :: r, m => by
    rw [List.cons_append, numbG, numbG, numbG_snoc (j + 1) r m, List.cons_append, List.length_cons]
    congr 5
    omega
end
section
variable {α : Type} [DecidableEq α] (key : α → List Key) (inj : ∀ a b, key a = key b → a = b)
include inj
theorem numbG_val : ∀ (j : Nat) (fs : List α) (m : α), valV (numbG key j fs) (key m) = if m ∈ fs then some (.int ((j + ix fs m : Nat) : Int)) else none
  | _, [], m => rfl
  | j, x :: r, m => by
    have ih := numbG_val (j + 1) r m
    by_cases e : x = m
    · subst e
      rw [if_pos (by simp)]
      refine (valV_pos rfl).trans ?_
      rw [ix_same]
      rfl
    · have ne : ¬ key x = key m := fun z => e (inj _ _ z)
      refine (valV_neg ne).trans ?_
      rw [ih, ix_other r e]
      by_cases h : m ∈ r
      · rw [if_pos h, if_pos (by simp [h])]
        congr 3
        omega
      · rw [if_neg h, if_neg (by simp [h]; exact fun z => e z.symm)]
theorem numbG_put {fs : List α} {m : α} (h : m ∉ fs) : putK (numbG key 0 fs) (key m) (.int (fs.length : Int)) = numbG key 0 (fs ++ [m]) := by
  rw [putK_new _ (by rw [numbG_val key inj, if_neg h]), numbG_snoc, Nat.zero_add]
end
end Rw

set_option Elab.async false
set_option linter.all false
set_option maxRecDepth 100000
set_option maxHeartbeats 4000000
namespace K58
open PySem PySem.Spec PyProof.Rows L2 Rw
theorem pairK_inj (a b : Int × Int) (h : pairK a = pairK b) : a = b := by
  obtain ⟨a1, a2⟩ := a
  obtain ⟨b1, b2⟩ := b
  unfold pairK at h
  simp only [List.cons.injEq, Sum.inl.injEq, and_true] at h
  rw [h.1, h.2]
section
variable {P : Program} {w : World} {K : PySem.W.Frag} {mg : Str → Option Value} {base : Heap}
theorem ok_PA2 {f : Addr} {fd : FuncData} (F : FunD K "put_anew" "put_anew" (defArgs sPA) (defBody sPA) (defScope sPA) [] [] f fd) (T : Ts K mg) : FnOk P w K mg base CX0 1 f fd ["marks"] spPA2 := by
  refine F.ok scPA (fun vs H Q E h => ?_) (fun cdv A outer s H vs Q E hr h => ?_)
  · obtain ⟨_, _, _, rfl, _⟩ := h
    rfl
  obtain ⟨a, ms, ts, rfl, ha, hts, hl, hq⟩ := h
  refine ⟨_, PSs.nox (pss_cons (ps_set (i := 1) scPA.nd rfl (by first | exact Or.inl rfl | exact Or.inr rfl) pe_dnewT)
      (pss_cons (ps_for PassesOwn.never rfl (pi_list (pv 0)) (pg_name (i := 2) scPA.nd rfl (by first | exact Or.inl rfl | exact Or.inr rfl))
        (pss_one (ps_expr (pe_dsetdT (hu_of hr) (pv 1) (pv 2) (pe_callB call_len_dT (by rfl) T.len PySem.boot_len (pa_cons (pv 1) pa_nil)) ⟨by rfl, by rfl, by rfl, by rfl⟩))))
      (pss_one (ps_ret (pe_callTy call_tuple_of (by rfl) T.tuple (by decide +kernel) (pa_cons (pe_lc (own := [("mark", 2)]) rfl scPA.nd (pi_list (pv 0)) (blkOk_by (N := NPA) (sc := defScope sPA) (by decide +kernel)) (fun _ _ _ _ _ => (pg_name (i := 2) scPA.nd rfl (by first | exact Or.inl rfl | exact Or.inr rfl))) (fun _ _ _ _ _ => pts_nil) (fun _ _ _ _ _ => (pe_dget (hu_of hr) (pv 1) (pv 2) (fun _ _ => rfl)))) pa_nil)))))), ?_⟩
  intro d hd
  have lt : ts.length = ms.length := p_len hts
  have s0 : ∀ kvs, Same H (upd H d (.dT kvs)) := fun kvs => same_new hd
  refine ⟨_, rfl, a, rfl, ⟨_, SqL.of (s0 _ _ _ ha)⟩, for_list (xs := ts.map .ref) (fun i σ' H' => ∃ c, σ' = [some (.ref a), some (.ref d), c] ∧ H' = upd H d (.dT (numbG pairK 0 (firsts (ms.take i))))) ⟨none, rfl, rfl⟩ ?_ ?_ ?_⟩
  · rintro i _ _ _ ⟨c, rfl, rfl⟩
    exact SqL.of (s0 _ _ _ ha)
  · rintro i x _ _ hx ⟨c, rfl, rfl⟩
    rw [List.getElem?_map] at hx
    obtain ⟨t, ht, rfl⟩ := Option.map_eq_some_iff.mp hx
    obtain ⟨m, hm, htm⟩ := p_at hts ht
    have et : firsts (ms.take (i + 1)) = meet (firsts (ms.take i)) m := by rw [List.take_add_one, hm]; exact firsts_snoc _ _
    have fl : (firsts (ms.take i)).length ≤ 1000 := Nat.le_trans (firsts_len _) (Nat.le_trans (List.length_take_le' _ _) hl)
    refine ⟨_, rfl, d, rfl, .inr ⟨_, .inl upd_same⟩, _, rfl, _, rfl, d, _, rfl, upd_same, _, pairK m, t, upd_same, rfl, s0 _ _ _ htm, by rw [numbG_len]; exact small1000 fl, fun v hv => ?_, fun hn => ?_⟩
    · rw [numbG_val pairK pairK_inj] at hv
      by_cases h : m ∈ firsts (ms.take i)
      · refine ⟨_, rfl, ?_⟩
        rw [et]
        unfold meet
        rw [if_pos h]
      · rw [if_neg h] at hv
        cases hv
    · rw [numbG_val pairK pairK_inj] at hn
      by_cases h : m ∈ firsts (ms.take i)
      · rw [if_pos h] at hn
        cases hn
      · refine ⟨_, rfl, ?_⟩
        rw [et, upd_upd, numbG_len, numbG_put pairK pairK_inj h]
        unfold meet
        rw [if_neg h]
  · rintro _ _ ⟨c, rfl, rfl⟩
    rw [List.length_map, lt, List.take_length]
    have s1 := s0 (numbG pairK 0 (firsts ms))
    generalize eH : upd H d (.dT (numbG pairK 0 (firsts ms))) = H1 at s1
    have hd1 : H1 d = some (.dT (numbG pairK 0 (firsts ms))) := by rw [← eH, upd_same]
    refine ⟨_, rfl, a, rfl, ⟨_, SqL.of (s1 _ _ ha)⟩, fun D hD => ?_⟩
    have s2 : ∀ ys, Same H1 (upd H1 D (.lst ys)) := fun ys => same_new hD
    refine lc_list (xs := ts.map .ref) (fun i H' => H' = upd H1 D (.lst ((ms.take i).map fun m => V.int (ix (firsts ms) m : Nat)))) rfl ?_ ?_ ?_
    · rintro i _ _ rfl
      exact SqL.of (s2 _ _ _ (s1 _ _ ha))
    · rintro i x _ hx rfl
      rw [List.getElem?_map] at hx
      obtain ⟨t, ht, rfl⟩ := Option.map_eq_some_iff.mp hx
      obtain ⟨m, hm, htm⟩ := p_at hts ht
      have et : ms.take (i + 1) = ms.take i ++ [m] := by rw [List.take_add_one, hm]; rfl
      have hmem : m ∈ firsts ms := (mem_firsts ms m).mpr (List.mem_of_getElem? hm)
      have hg : ∀ ys, DGet (upd H1 D (.lst ys)) d (.ref t) (some (.int (ix (firsts ms) m : Nat))) := fun ys => by
        have e := DGet.t (k := pairK m) (s2 ys _ _ hd1) (s2 ys _ _ (s1 _ _ htm))
        rw [numbG_val pairK pairK_inj, if_pos hmem, Nat.zero_add] at e
        exact e
      refine ⟨rfl, yes_read ?_⟩
      refine iteT ⟨_, rfl, _, rfl, d, _, rfl, hg _, _, upd_same, small1000 ?_, ?_⟩
      · rw [List.length_map]
        exact Nat.le_trans (List.length_take_le' _ _) hl
      · rw [upd_upd, et, List.map_append]
        rfl
    · rintro _ rfl
      rw [List.length_map, lt, List.take_length]
      refine ⟨D, _, rfl, .inl ⟨SqL.of upd_same, fun p hp => ?_⟩⟩
      have fp : H p = none := (s1.trans (s2 _)).free hp
      refine hq p _ ((s1.trans (s2 _)).trans (same_new hp)) fp ?_
      rw [upd_same]
      unfold norm nums
      rw [List.map_map]
      rfl
end
end K58

set_option Elab.async false
set_option linter.all false
set_option maxRecDepth 100000
set_option maxHeartbeats 4000000
namespace K58
open PySem PySem.Spec PyProof.Rows L2 Rw
abbrev sN : Stmt := top 21
abbrev NN : List Str := ["classes_now", "known", "n"]
theorem op_inDK {X : Cx} {K : PySem.W.Frag} (hK : X.K = K) (hu : X.A.units + 65 < cLine) : OpR X (compareOp .In) (rInD K) := by subst hK; exact op_inD hu
theorem mt_indexDK {X : Cx} {K : PySem.W.Frag} (hK : X.K = K) (hu : X.A.units + 65 < cLine) : MtR X "list.index" (rIndexD K) := by subst hK; exact mt_indexD hu
theorem pe_bmK {X : Cx} {K : PySem.W.Frag} {T name id : String} {r : V → List V → Hp → VK → Prop} {o e : Expr} {es : List Expr} {to : TE} {t : TA} {apos cpos : Pos} (hK : X.K = K) (pa : PlainAttrs T) (slot : Slot T name id) (hty : typeOf (.builtin id) = pure (.type "method_descriptor")) (hm : MtR X id r) (ho : PE X o to) (ha : PA X (e :: es) t)
    (hbase : attributeBase o name X.env (eval o X.env) = eval o X.env := by rfl)
    (hfew : ((backTo cpos (starEach (e :: es) X.env)).all (fun x => !x.1) && (backToKw cpos (keywordEach [] X.env)).all (fun x => x.1.isSome) && decide ((e :: es).length + ([] : List Keyword).length + (if ([] : List Keyword).isEmpty then 0 else 1) < 30)) = true := by rfl)
    (hline : (apos.endLine == cpos.line) = true := by rfl) (hs : starEach (e :: es) X.env = (false, eval e X.env) :: starEach es X.env := by rfl) (hplain : (backTo cpos (starEach es X.env)).any (·.1) = false := by rfl) :
    PE X (.Call (.Attribute o name apos) (e :: es) [] cpos) (tBM K T r to t) := by
  subst hK
  exact pe_bm pa slot hty hm ho ha hbase hfew hline hs hplain
/-- things that are told apart as data -/
structure Mark (K : PySem.W.Frag) (α : Type) [DecidableEq α] where
  e : α → PyData
  R : Hp → V → α → Prop
  mono : ∀ {H H' : Hp} {v : V} {m : α}, Same H H' → R H v m → R H' v m
  dp : ∀ {H : Hp} {v : V} {m : α}, R H v m → Dp K H v (e m)
  eqv : ∀ a b, PyData.eqv (e a) (e b) = decide (a = b)
  lay : ∀ m, (e m).canLay0 = true
  deep : ∀ m, (e m).depth ≤ 10
section
variable {P : Program} {w : World} {K : PySem.W.Frag} {mg : Str → Option Value} {base : Heap} {α : Type} [DecidableEq α]
theorem Mark.shaped (M : Mark K α) (m : α) : SeqAt.shaped (M.e m) = true := by
  unfold SeqAt.shaped
  rw [M.lay m, Bool.true_and, decide_eq_true_eq]
  exact Nat.le_trans (M.deep m) (by decide)
theorem Mark.lays (M : Mark K α) : ∀ ms : List α, PyData.canLayAll0 (ms.map M.e) = true
  | [] => by simp only [List.map_nil, PyData.canLayAll0]
  | m :: r => by simp only [List.map_cons, PyData.canLayAll0, M.lay m, M.lays r, Bool.and_self]
theorem Mark.deeps (M : Mark K α) : ∀ ms : List α, PyData.depthAll (ms.map M.e) ≤ 10
  | [] => by simp only [List.map_nil, PyData.depthAll]; decide
  | m :: r => by
    simp only [List.map_cons, PyData.depthAll]
    exact Nat.max_le.mpr ⟨M.deep m, M.deeps r⟩
theorem Mark.shapeds (M : Mark K α) (ms : List α) : SeqAt.shaped (.list (ms.map M.e)) = true := by
  unfold SeqAt.shaped
  have := M.deeps ms
  simp only [PyData.canLay0, PyData.depth, M.lays ms, Bool.true_and]
  exact decide_eq_true (Nat.le_trans (Nat.succ_le_succ this) (by decide))
theorem Mark.dps (M : Mark K α) {H : Hp} : ∀ {vs : List V} {ms : List α}, Paired (M.R H) vs ms → DpAll K H vs (ms.map M.e)
  | _, _, .nil => .nil
  | _, _, .cons h t => .cons (M.dp h) (M.dps t)
theorem Mark.any (M : Mark K α) (m : α) : ∀ ms : List α, ((ms.map M.e).any fun z => PyData.eqv z (M.e m)) = decide (m ∈ ms)
  | [] => rfl
  | x :: r => by
    rw [List.map_cons, List.any_cons, M.eqv, M.any m r]
    by_cases h : x = m
    · simp [h]
    · have h' : ¬ m = x := fun z => h z.symm
      simp [h, h']
def spN (M : Mark K α) : Sp := fun vs H Q _ => ∃ (a : Addr) (xs : List V) (ms : List α), vs = [.ref a] ∧ H a = some (.tup xs) ∧ Paired (M.R H) xs ms ∧ ms.length ≤ 1000 ∧ ∀ p H', Same H H' → H p = none → H' p = some (.tup (nums (norm ms))) → Q (.ref p) H'
def spN2 (M : Mark K α) : Sp := fun vs H Q _ => ∃ (a : Addr) (xs : List V) (ms : List α), vs = [.ref a] ∧ H a = some (.lst xs) ∧ Paired (M.R H) xs ms ∧ ms.length ≤ 1000 ∧ ∀ p H', Same H H' → H p = none → H' p = some (.tup (nums (norm ms))) → Q (.ref p) H'
theorem scN : FnScope NN ["classes_now"] (defScope sN) := ⟨rfl, rfl, rfl, by decide +kernel, rfl, by decide +kernel, by decide +kernel⟩
theorem ok_N (M : Mark K α) {f : Addr} {fd : FuncData} (F : FunD K "_law_normal" "_law_normal" (defArgs sN) (defBody sN) (defScope sN) [] [] f fd) (T : Ts K mg) : FnOk P w K mg base CX0 1 f fd ["classes_now"] (spN M) := by
  refine F.ok scN (fun vs H Q E h => ?_) (fun cdv A outer s H vs Q E hr h => ?_)
  · obtain ⟨_, _, _, rfl, _⟩ := h
    rfl
  obtain ⟨a, xs, ms, rfl, ha, hx, hl, hq⟩ := h
  have hu65 : (A.deeper (envOfC "_law_normal" (defScope sN) s.heap.objs.size f cdv)).units + 65 < cLine := by have := hr.un; omega
  have ln := p_len hx
  refine ⟨_, PSs.nox (pss_cons (ps_set (i := 1) scN.nd rfl (by first | exact Or.inl rfl | exact Or.inr rfl) (pe_lst pa_nil))
      (pss_cons (ps_for PassesOwn.never rfl (pi_tup (pv 0)) (pg_name (i := 2) scN.nd rfl (by first | exact Or.inl rfl | exact Or.inr rfl))
        (pss_one (ps_set (i := 1) scN.nd rfl (by first | exact Or.inl rfl | exact Or.inr rfl) (pe_ifExp (pt_cmpR (op_inDK (K := K) rfl hu65) (pv 2) (pv 1) (by with_unfolding_all rfl)) (pv 1) (pe_op op_cat (pv 1) (pe_lst (pa_cons (pv 2) pa_nil)))))))
      (pss_one (ps_ret (pe_callTy call_tuple_of (by rfl) T.tuple (by decide +kernel) (pa_cons (pe_lc (own := [("n", 2)]) rfl scN.nd (pi_tup (pv 0)) (blkOk_by (N := NN) (sc := defScope sN) (by decide +kernel)) (fun _ _ _ _ _ => (pg_name (i := 2) scN.nd rfl (by first | exact Or.inl rfl | exact Or.inr rfl))) (fun _ _ _ _ _ => pts_nil) (fun _ _ _ _ _ => (pe_bmK (K := K) rfl PySem.F.plainAttrs_list PySem.F.slot_list_index PySem.F.type_list_index (mt_indexDK (K := K) rfl hu65) (pv 1) (pa_cons (pv 2) pa_nil)))) pa_nil)))))), ?_⟩
  refine ⟨Nat.zero_le _, fun l0 f0 => ?_⟩
  refine ⟨_, rfl, a, rfl, ⟨_, SqT.of (same_new f0 _ _ ha)⟩, for_tup (xs := xs) (fun i σ' H' => ∃ l ks c, σ' = [some (.ref a), some (.ref l), c] ∧ Same H H' ∧ H' l = some (.lst ks) ∧ Paired (M.R H') ks (firsts (ms.take i))) ⟨l0, [], none, rfl, same_new f0, upd_same, .nil⟩ ?_ ?_ ?_⟩
  · rintro i _ H' _ ⟨l, ks, c, rfl, s1, _⟩
    exact SqT.of (s1 _ _ ha)
  · rintro i x _ H' hxi ⟨l, ks, c, rfl, s1, hk, hp⟩
    obtain ⟨m, hm, rm⟩ := p_at hx hxi
    have et : firsts (ms.take (i + 1)) = meet (firsts (ms.take i)) m := by rw [List.take_add_one, hm]; exact firsts_snoc _ _
    have fl : (firsts (ms.take i)).length ≤ 1000 := Nat.le_trans (firsts_len _) (Nat.le_trans (List.length_take_le' _ _) hl)
    have rm1 := M.mono s1 rm
    refine ⟨_, rfl, _, rfl, M.e m, (firsts (ms.take i)).map M.e, M.dp rm1, .lst (SqL.of hk) (M.dps hp), M.shaped m, M.shapeds _, _, rfl, ?_⟩
    rw [M.any]
    refine ite2 (fun h => ?_) fun h => ?_
    · rw [decide_eq_true_eq] at h
      refine ⟨_, rfl, l, ks, _, rfl, s1, hk, ?_⟩
      rw [et]
      unfold meet
      rw [if_pos h]
      exact hp
    · rw [decide_eq_true_eq] at h
      refine ⟨_, rfl, _, rfl, by show 1 ≤ sizeLine; decide, fun q fq => ?_⟩
      have s2 := same_new (o := .lst [x]) fq
      refine ⟨l, q, ks, [x], rfl, rfl, s2 _ _ hk, upd_same, Nat.le_trans (by rw [p_len hp]; exact Nat.add_le_add_right fl 1) (by decide), fun r fr => ?_⟩
      have s3 := same_new (o := .lst (ks ++ [x])) fr
      refine ⟨r, ks ++ [x], _, rfl, (s1.trans s2).trans s3, upd_same, ?_⟩
      rw [et]
      unfold meet
      rw [if_neg h]
      exact p_app (L2.Paired.mapP hp fun _ _ => M.mono (s2.trans s3)) (.cons (M.mono (s2.trans s3) rm1) .nil)
  · rintro _ H1 ⟨l, ks, c, rfl, s1, hk, hp⟩
    rw [ln, List.take_length] at hp
    refine ⟨_, rfl, a, rfl, ⟨_, SqT.of (s1 _ _ ha)⟩, fun D hD => ?_⟩
    have s2 : ∀ ys, Same H1 (upd H1 D (.lst ys)) := fun ys => same_new hD
    refine lc_tup (xs := xs) (fun i H' => H' = upd H1 D (.lst ((ms.take i).map fun m => V.int (ix (firsts ms) m : Nat)))) rfl ?_ ?_ ?_
    · rintro i _ _ rfl
      exact SqT.of (s2 _ _ _ (s1 _ _ ha))
    · rintro i x _ hxi rfl
      obtain ⟨m, hm, rm⟩ := p_at hx hxi
      have et : ms.take (i + 1) = ms.take i ++ [m] := by rw [List.take_add_one, hm]; rfl
      have hmem : m ∈ firsts ms := (mem_firsts ms m).mpr (List.mem_of_getElem? hm)
      obtain ⟨i1, i2⟩ := ix_at hmem
      refine ⟨rfl, yes_read ?_⟩
      refine iteT ?_
      have hp2 : ∀ ys, Paired (M.R (upd H1 D (.lst ys))) ks (firsts ms) := fun ys => L2.Paired.mapP hp fun _ _ => M.mono (s2 ys)
      have rm2 : ∀ ys, M.R (upd H1 D (.lst ys)) x m := fun ys => M.mono (s1.trans (s2 ys)) rm
      refine ⟨_, rfl, .inl ⟨rfl, _, SqL.of (s2 _ _ _ hk)⟩, _, rfl, l, x, M.e m, (firsts ms).map M.e, ix (firsts ms) m, M.e m, rfl, rfl, .lst (SqL.of (s2 _ _ _ hk)) (M.dps (hp2 _)), M.dp (rm2 _), M.shapeds _, M.shaped m, ?_, ?_, ?_, ?_⟩
      · rw [List.getElem?_map, i1]
        rfl
      · rw [M.eqv]
        exact decide_eq_true rfl
      · intro j z' hj hz
        rw [List.getElem?_map] at hz
        obtain ⟨m', hm', rfl⟩ := Option.map_eq_some_iff.mp hz
        rw [M.eqv]
        refine decide_eq_false fun e => i2 j hj ?_
        rw [hm', e]
      · refine ⟨_, upd_same, small1000 ?_, ?_⟩
        · rw [List.length_map]
          exact Nat.le_trans (List.length_take_le' _ _) hl
        · rw [upd_upd, et, List.map_append]
          rfl
    · rintro _ rfl
      rw [ln, List.take_length]
      refine ⟨D, _, rfl, .inl ⟨SqL.of upd_same, fun p hp => ?_⟩⟩
      have fp : H p = none := (s1.trans (s2 _)).free hp
      refine hq p _ ((s1.trans (s2 _)).trans (same_new hp)) fp ?_
      rw [upd_same]
      unfold norm nums
      rw [List.map_map]
      rfl
theorem ok_N2 (M : Mark K α) {f : Addr} {fd : FuncData} (F : FunD K "_law_normal" "_law_normal" (defArgs sN) (defBody sN) (defScope sN) [] [] f fd) (T : Ts K mg) : FnOk P w K mg base CX0 1 f fd ["classes_now"] (spN2 M) := by
  refine F.ok scN (fun vs H Q E h => ?_) (fun cdv A outer s H vs Q E hr h => ?_)
  · obtain ⟨_, _, _, rfl, _⟩ := h
    rfl
  obtain ⟨a, xs, ms, rfl, ha, hx, hl, hq⟩ := h
  have hu65 : (A.deeper (envOfC "_law_normal" (defScope sN) s.heap.objs.size f cdv)).units + 65 < cLine := by have := hr.un; omega
  have ln := p_len hx
  refine ⟨_, PSs.nox (pss_cons (ps_set (i := 1) scN.nd rfl (by first | exact Or.inl rfl | exact Or.inr rfl) (pe_lst pa_nil))
      (pss_cons (ps_for PassesOwn.never rfl (pi_list (pv 0)) (pg_name (i := 2) scN.nd rfl (by first | exact Or.inl rfl | exact Or.inr rfl))
        (pss_one (ps_set (i := 1) scN.nd rfl (by first | exact Or.inl rfl | exact Or.inr rfl) (pe_ifExp (pt_cmpR (op_inDK (K := K) rfl hu65) (pv 2) (pv 1) (by with_unfolding_all rfl)) (pv 1) (pe_op op_cat (pv 1) (pe_lst (pa_cons (pv 2) pa_nil)))))))
      (pss_one (ps_ret (pe_callTy call_tuple_of (by rfl) T.tuple (by decide +kernel) (pa_cons (pe_lc (own := [("n", 2)]) rfl scN.nd (pi_list (pv 0)) (blkOk_by (N := NN) (sc := defScope sN) (by decide +kernel)) (fun _ _ _ _ _ => (pg_name (i := 2) scN.nd rfl (by first | exact Or.inl rfl | exact Or.inr rfl))) (fun _ _ _ _ _ => pts_nil) (fun _ _ _ _ _ => (pe_bmK (K := K) rfl PySem.F.plainAttrs_list PySem.F.slot_list_index PySem.F.type_list_index (mt_indexDK (K := K) rfl hu65) (pv 1) (pa_cons (pv 2) pa_nil)))) pa_nil)))))), ?_⟩
  refine ⟨Nat.zero_le _, fun l0 f0 => ?_⟩
  refine ⟨_, rfl, a, rfl, ⟨_, SqL.of (same_new f0 _ _ ha)⟩, for_list (xs := xs) (fun i σ' H' => ∃ l ks c, σ' = [some (.ref a), some (.ref l), c] ∧ Same H H' ∧ H' l = some (.lst ks) ∧ Paired (M.R H') ks (firsts (ms.take i))) ⟨l0, [], none, rfl, same_new f0, upd_same, .nil⟩ ?_ ?_ ?_⟩
  · rintro i _ H' _ ⟨l, ks, c, rfl, s1, _⟩
    exact SqL.of (s1 _ _ ha)
  · rintro i x _ H' hxi ⟨l, ks, c, rfl, s1, hk, hp⟩
    obtain ⟨m, hm, rm⟩ := p_at hx hxi
    have et : firsts (ms.take (i + 1)) = meet (firsts (ms.take i)) m := by rw [List.take_add_one, hm]; exact firsts_snoc _ _
    have fl : (firsts (ms.take i)).length ≤ 1000 := Nat.le_trans (firsts_len _) (Nat.le_trans (List.length_take_le' _ _) hl)
    have rm1 := M.mono s1 rm
    refine ⟨_, rfl, _, rfl, M.e m, (firsts (ms.take i)).map M.e, M.dp rm1, .lst (SqL.of hk) (M.dps hp), M.shaped m, M.shapeds _, _, rfl, ?_⟩
    rw [M.any]
    refine ite2 (fun h => ?_) fun h => ?_
    · rw [decide_eq_true_eq] at h
      refine ⟨_, rfl, l, ks, _, rfl, s1, hk, ?_⟩
      rw [et]
      unfold meet
      rw [if_pos h]
      exact hp
    · rw [decide_eq_true_eq] at h
      refine ⟨_, rfl, _, rfl, by show 1 ≤ sizeLine; decide, fun q fq => ?_⟩
      have s2 := same_new (o := .lst [x]) fq
      refine ⟨l, q, ks, [x], rfl, rfl, s2 _ _ hk, upd_same, Nat.le_trans (by rw [p_len hp]; exact Nat.add_le_add_right fl 1) (by decide), fun r fr => ?_⟩
      have s3 := same_new (o := .lst (ks ++ [x])) fr
      refine ⟨r, ks ++ [x], _, rfl, (s1.trans s2).trans s3, upd_same, ?_⟩
      rw [et]
      unfold meet
      rw [if_neg h]
      exact p_app (L2.Paired.mapP hp fun _ _ => M.mono (s2.trans s3)) (.cons (M.mono (s2.trans s3) rm1) .nil)
  · rintro _ H1 ⟨l, ks, c, rfl, s1, hk, hp⟩
    rw [ln, List.take_length] at hp
    refine ⟨_, rfl, a, rfl, ⟨_, SqL.of (s1 _ _ ha)⟩, fun D hD => ?_⟩
    have s2 : ∀ ys, Same H1 (upd H1 D (.lst ys)) := fun ys => same_new hD
    refine lc_list (xs := xs) (fun i H' => H' = upd H1 D (.lst ((ms.take i).map fun m => V.int (ix (firsts ms) m : Nat)))) rfl ?_ ?_ ?_
    · rintro i _ _ rfl
      exact SqL.of (s2 _ _ _ (s1 _ _ ha))
    · rintro i x _ hxi rfl
      obtain ⟨m, hm, rm⟩ := p_at hx hxi
      have et : ms.take (i + 1) = ms.take i ++ [m] := by rw [List.take_add_one, hm]; rfl
      have hmem : m ∈ firsts ms := (mem_firsts ms m).mpr (List.mem_of_getElem? hm)
      obtain ⟨i1, i2⟩ := ix_at hmem
      refine ⟨rfl, yes_read ?_⟩
      refine iteT ?_
      have hp2 : ∀ ys, Paired (M.R (upd H1 D (.lst ys))) ks (firsts ms) := fun ys => L2.Paired.mapP hp fun _ _ => M.mono (s2 ys)
      have rm2 : ∀ ys, M.R (upd H1 D (.lst ys)) x m := fun ys => M.mono (s1.trans (s2 ys)) rm
      refine ⟨_, rfl, .inl ⟨rfl, _, SqL.of (s2 _ _ _ hk)⟩, _, rfl, l, x, M.e m, (firsts ms).map M.e, ix (firsts ms) m, M.e m, rfl, rfl, .lst (SqL.of (s2 _ _ _ hk)) (M.dps (hp2 _)), M.dp (rm2 _), M.shapeds _, M.shaped m, ?_, ?_, ?_, ?_⟩
      · rw [List.getElem?_map, i1]
        rfl
      · rw [M.eqv]
        exact decide_eq_true rfl
      · intro j z' hj hz
        rw [List.getElem?_map] at hz
        obtain ⟨m', hm', rfl⟩ := Option.map_eq_some_iff.mp hz
        rw [M.eqv]
        refine decide_eq_false fun e => i2 j hj ?_
        rw [hm', e]
      · refine ⟨_, upd_same, small1000 ?_, ?_⟩
        · rw [List.length_map]
          exact Nat.le_trans (List.length_take_le' _ _) hl
        · rw [upd_upd, et, List.map_append]
          rfl
    · rintro _ rfl
      rw [ln, List.take_length]
      refine ⟨D, _, rfl, .inl ⟨SqL.of upd_same, fun p hp => ?_⟩⟩
      have fp : H p = none := (s1.trans (s2 _)).free hp
      refine hq p _ ((s1.trans (s2 _)).trans (same_new hp)) fp ?_
      rw [upd_same]
      unfold norm nums
      rw [List.map_map]
      rfl
end
end K58

set_option Elab.async false
set_option linter.all false
set_option maxRecDepth 100000
set_option maxHeartbeats 4000000
namespace K58
open PySem PySem.Spec PyProof.Rows L2 Rw
def clsM (s : Stmt) (i : Nat) : Stmt := match s with
  | .ClassDef _ _ _ body _ _ _ _ _ _ _ => body.getD i (.Pass ⟨0, 0, 0, 0⟩)
  | _ => s
abbrev sInit : Stmt := clsM (top 10) 0
abbrev NInit : List Str := ["self", "letters", "classes"]
structure Tx (P : Program) (K : PySem.W.Frag) (mg : Str → Option Value) (cB cO cL : Addr) : Prop extends Ts K mg where
  super : mg "super" = none
  wb : WxC P K cB "part"
  gb : mg "BadOnlooker" = some (.ref cB)
  cl : Cls K cL
  n1 : NoAttr K cL "letters"
  n2 : NoAttr K cL "classes"
def SameX (x : Addr) (H H' : Hp) : Prop := ∀ a o, H a = some o → a ≠ x → H' a = some o
/-- the new onlooker, or what is wrong -/
def spInit (cB cL : Addr) : Sp := fun vs H Q E => ∃ (x dx : Addr) (v u : V) (ok : Addr → Prop) (dl dc : PyData), vs = [.ref x, v, u] ∧ H x = some (.ins cL dx []) ∧ Dq H ok v dl ∧ Dq H ok u dc ∧ (∀ z, dl = .str z → z.length ≤ 60) ∧ (∀ ds, dc = .tuple ds → ds.length ≤ 1000) ∧
  (∀ ms : List Int, heardD dl = true → dc = .tuple (ms.map .int) → classesD dc = true → ∀ p H', SameX x H H' → H p = none → H' p = some (.tup (nums (norm ms))) → H' x = some (.ins cL dx [("letters", v), ("classes", .ref p)]) → Q .non H') ∧
  (∀ s d H', badV dl dc = .str s → Same H H' → H d = none → H' d = some (.xd [("part", .str s)]) → E (.ref cB) (some d) H')
theorem nat_ints : ∀ {ds : List PyData}, ds.all natD = true → ∃ ms : List Int, ds = ms.map .int
  | [], _ => ⟨[], rfl⟩
  | d :: r, h => by
    rw [List.all_cons, Bool.and_eq_true] at h
    obtain ⟨ms, rfl⟩ := nat_ints h.2
    cases d with
    | int i => exact ⟨i :: ms, rfl⟩
    | _ => exact absurd h.1 (by simp [natD])
theorem dq_ints {H : Hp} {ok : Addr → Prop} : ∀ {xs : List V} {ms : List Int}, DqAll H ok xs (ms.map .int) → xs = ms.map .int
  | [], [], _ => rfl
  | [], _ :: _, h => nomatch h
  | _ :: _, [], h => nomatch h
  | x :: xs, m :: ms, .cons h t => by
    cases h
    rw [dq_ints t]
    rfl
section
variable {P : Program} {w : World} {K : PySem.W.Frag} {mg : Str → Option Value} {base : Heap} {cB cO cL : Addr}
theorem scInit : FnScope NInit ["self", "letters", "classes"] (defScope sInit) := ⟨rfl, rfl, rfl, by decide +kernel, rfl, by decide +kernel, by decide +kernel⟩
theorem ok_init {f fH fI fA fN : Addr} {fd fdH fdI fdA fdN : FuncData} (F : FunD K "__init__" "Onlooker.__init__" (defArgs sInit) (defBody sInit) (defScope sInit) [] [] f fd) (T : Tx P K mg cB cO cL)
    (FH : FunD K "is_heard" "is_heard" (defArgs sIsH) (defBody sIsH) (defScope sIsH) [] [] fH fdH) (mH : mg "is_heard" = some (.ref fH))
    (FI : FunD K "is_integer" "is_integer" (defArgs sIsI) (defBody sIsI) (defScope sIsI) [] [] fI fdI) (mI : mg "is_integer" = some (.ref fI))
    (FA : FunD K "are_classes" "are_classes" (defArgs sAreC) (defBody sAreC) (defScope sAreC) [] [] fA fdA) (mA : mg "are_classes" = some (.ref fA))
    (FN : FunD K "put_anew" "put_anew" (defArgs sPA) (defBody sPA) (defScope sPA) [] [] fN fdN) (mN : mg "put_anew" = some (.ref fN)) :
    FnOk P w K mg base (CX P w) 3 f fd ["self", "letters", "classes"] (spInit cB cL) := by
  have GH : FnOk P w K mg base CX0 1 fH fdH ["thing"] spIsH := ok_isH FH T.toTs
  have GA : FnOk P w K mg base CX0 2 fA fdA ["thing"] spAreC := ok_areC FA T.toTs FI mI
  have GN : FnOk P w K mg base CX0 1 fN fdN ["marks"] (spPA K) := ok_PA FN T.toTs
  have bH : Binds K fdH ["thing"] [] := FH.bindsN fun _ _ _ _ _ _ us hl => match us, hl with | [_], _ => rfl
  have bA : Binds K fdA ["thing"] [] := FA.bindsN fun _ _ _ _ _ _ us hl => match us, hl with | [_], _ => rfl
  have bN : Binds K fdN ["marks"] [] := FN.bindsN fun _ _ _ _ _ _ us hl => match us, hl with | [_], _ => rfl
  refine F.ok scInit (fun vs H Q E h => ?_) (fun cdv A outer s H vs Q E hr h => ?_)
  · obtain ⟨_, _, _, _, _, _, _, rfl, _⟩ := h
    rfl
  obtain ⟨x, dx, v, u, ok, dl, dc, rfl, hx, hv, hu, hvl, hul, hgood, hbad⟩ := h
  have room := show (A.deeper (envOfC "Onlooker.__init__" (defScope sInit) s.heap.objs.size f cdv)).depth + 1 < recursionLimit by have := hr.dp; omega
  refine ⟨_, (pss_cons (ps_if (pt_not (pt_val (pe_call GH (hr.mono (by decide)) rfl mH FH.kp bH .nil pass0 (pa_cons (pv 1) pa_nil)))) (pss_one (ps_raise rfl (takes_of rfl rfl rfl rfl) (pmk_x T.wb room T.super rfl T.gb pe_str))) pss_nil)
      (pss_cons (ps_if (pt_not (pt_val (pe_call GA (hr.mono (by decide)) rfl mA FA.kp bA .nil pass0 (pa_cons (pv 2) pa_nil)))) (pss_one (ps_raise rfl (takes_of rfl rfl rfl rfl) (pmk_x T.wb room T.super rfl T.gb pe_str))) pss_nil)
      (pss_cons (ps_fld (pv 0) (pv 1) rfl)
      (pss_one (ps_fld (pv 0) (pe_call GN (hr.mono (by decide)) rfl mN FN.kp bN .nil pass0 (pa_cons (pv 2) pa_nil)) rfl))))), ?_⟩
  refine ⟨_, rfl, v, ok, dl, rfl, hv, hvl, fun H1 s1 => ⟨_, rfl, ?_⟩⟩
  cases e1 : heardD dl with
  | false =>
    refine iteT fun d hd => ?_
    refine hbad "letters" d _ (by unfold badV; rw [e1]; rfl) (s1.trans (same_new hd)) (s1.free hd) upd_same
  | true =>
    refine iteF ?_
    have hu1 := Dq.to hu s1
    refine ⟨_, rfl, u, ok, dc, rfl, hu1, hul, fun H2 s2 => ⟨_, rfl, ?_⟩⟩
    have s12 := s1.trans s2
    cases e2 : classesD dc with
    | false =>
      refine iteT fun d hd => ?_
      exact hbad "classes" d _ (by unfold badV; rw [e1, e2]; rfl) (s12.trans (same_new hd)) (s12.free hd) upd_same
    | true =>
      refine iteF ?_
      cases dc with
      | tuple ds =>
        have e3 : (!ds.isEmpty && ds.all natD) = true := e2
        rw [Bool.and_eq_true] at e3
        obtain ⟨ms, rfl⟩ := nat_ints e3.2
        cases hu with
        | @tup a xs _ ha hxa hxs =>
        have := dq_ints hxs
        subst this
        have hx2 := s12 _ _ hx
        have ha2 := s12 _ _ hxa
        have nax : a ≠ x := ne_of ha2 hx2 (fun z => by cases z)
        refine ⟨_, rfl, _, rfl, x, cL, dx, [], rfl, hx2, T.cl, T.n1, by decide, ?_⟩
        have l1000 : ms.length ≤ 1000 := by
          have := hul _ rfl
          rwa [List.length_map] at this
        refine ⟨_, rfl, a, ms, rfl, by rw [upd_ne nax]; exact ha2, l1000, fun p H3 s3 fp gp => ⟨_, rfl, x, cL, dx, _, rfl, s3 _ _ upd_same, T.cl, T.n2, by show 1 < 1000; decide, ?_⟩⟩
        have npx : p ≠ x := fun e => by rw [e, upd_same] at fp; cases fp
        have f2 : H2 p = none := by rwa [upd_ne npx] at fp
        refine hgood ms e1 rfl e2 p _ (fun b o z nb => ?_) (s12.free f2) (by rw [upd_ne npx]; exact gp) (by rw [upd_same]; rfl)
        rw [upd_ne nb]
        exact s3 _ _ (by rw [upd_ne nb]; exact s12 _ _ z)
      | _ => cases e2
end
end K58

set_option Elab.async false
set_option linter.all false
set_option maxRecDepth 100000
set_option maxHeartbeats 4000000
/-! an own class called within a try: what its __init__ lets out may lean on the slots -/
namespace Rw
open PySem PySem.Spec PyProof.Rows L2
section
variable {X : Cx} {CX : CXT} {k : Nat} {f C : Addr} {fd : FuncData} {ps : List Str} {sp : Sp}
theorem make_at {σ : List (Option V)} {pins : List (Addr × Obj)} {H : Hp} {s : Shared} {Q : VK} {Ex : XK} {us : List Value} {kw : List (Str × Value)} (M : Mk X.K C f) (F : FnOk X.prog X.w X.K X.mg X.base CX k f fd ps sp) (room : Room (k + 1) X.A) (pass : PassesAt CX X σ Ex) (I : Inv X pins σ H s)
    (full : Addr → List Value) (fullV : Addr → List V) (rel : ∀ a, Vals (fullV a) (full a)) (bind : ∀ (z : Shared) (a : Addr), X.K.In z.heap → (full a).length = ps.length → BindsTo z fd ⟨.ref a :: us, kw⟩ (ps.zip (full a)))
    (h : ∀ x dx, H x = none → H dx = none → dx ≠ x → sp (fullV x) (upd (upd H dx (.own x)) x (.ins C dx [])) (fun v H2 => v = .non ∧ Q (.ref x) H2) Ex) : wpAny (model X.prog X.w) X.A (call (.ref C) us kw) (EP X pins σ Q) X.xe s := by
  have J := Inv.made (C := C) I
  have want := h (s.heap.objs.size + 1) s.heap.objs.size (I.hok.fresh (Nat.le_succ _)) (I.hok.fresh (Nat.le_refl _)) (Nat.ne_of_lt (Nat.lt_succ_self _))
  have cnt : (full (s.heap.objs.size + 1)).length = ps.length := by
    rw [← (rel _).length]
    exact F.len _ _ _ _ want
  have go := F.run _ X.stack _ _ ⟨Value.ref (s.heap.objs.size + 1) :: us, kw⟩ (full (s.heap.objs.size + 1)) _ _ Ex (room.make C us kw) (J.env0.make C us kw) (bind _ _ J.kIn cnt) (rel _) want
  refine wpAny_call (make_map (f := f) I.kIn M.makes M.init (beq_iff_eq.mp M.fn) (codeAny_mono go fun r z hr => ?_))
  match r, hr with
  | .error e, hr => exact pass pins _ _ e z J hr
  | .ok .next, hr => exact hr.elim
  | .ok .brk, hr => exact hr.elim
  | .ok .cont, hr => exact hr.elim
  | .ok (.ret u), hr =>
    obtain ⟨v, H1, J1, rv, ev, q⟩ := J.after hr
    subst ev
    exact ⟨rv, V.ref (s.heap.objs.size + 1), H1, J1, rfl, q⟩
variable {x : Str} {p pos : Pos} {e : Expr} {es : List Expr} {t : TA} {kws : List Keyword} {ks : List Str} {g : List Value → List Value → List Value} {gV : List V → List V → List V} {Ex : L2.St → XK}
def tMakeS (C : Addr) (sp : Sp) (Ex : L2.St → XK) (t : TA) : TE := fun σ H Q => t σ H fun vs H1 => ∀ x dx, H1 x = none → H1 dx = none → dx ≠ x → sp (.ref x :: vs) (upd (upd H1 dx (.own x)) x (.ins C dx [])) (fun v H2 => v = .non ∧ Q (.ref x) H2) (Ex σ)
/-- C(e, ..) -/
theorem pe_makeS (M : Mk X.K C f) (F : FnOk X.prog X.w X.K X.mg X.base CX k f fd ps sp) (room : Room (k + 1) X.A) (hg : Gl X x) (hm : X.mg x = some (.ref C)) (hb : Binds X.K fd ps []) (pass : ∀ σ, PassesAt CX X σ (Ex σ)) (ha : PA X (e :: es) t)
    (hdb : (x == ("__debug__" : Str)) = false := by decide) (he : starEach (e :: es) X.env = (false, eval e X.env) :: starEach es X.env := by rfl) (hpl : (backTo pos (starEach es X.env)).any (·.1) = false := by rfl) :
    PE X (.Call (.Name x p) (e :: es) [] pos) (tMakeS C sp Ex t) := by
  refine ⟨fun pins s σ H Q I h => wpAny_Call_Name_kw (ld_glob I hg hm (PySem.W.callWith_K (h₀ := X.base) I.ok.mod.kin M.kp (thn (ha.run pos pins s σ H _ I h) fun us s1 ⟨vs, H1, J, r, q⟩ => ⟨J.kIn, ?_⟩) he hpl) hdb)⟩
  refine make_at M F room (pass σ) J (fun a => .ref a :: us) (fun a => .ref a :: vs) (fun a => .cons rfl r) (fun z a kin l => ?_) q
  have b := hb z (.ref a :: us) kin (by rw [List.append_nil]; exact l)
  rwa [List.append_nil] at b
def tMakeKS (C : Addr) (n : Nat) (sp : Sp) (gV : List V → List V → List V) (Ex : L2.St → XK) (t : TA) : TE := fun σ H Q => t σ H fun zs H1 => zs.length = n ∧ ∀ x dx, H1 x = none → H1 dx = none → dx ≠ x → sp (gV [.ref x] zs) (upd (upd H1 dx (.own x)) x (.ins C dx [])) (fun v H2 => v = .non ∧ Q (.ref x) H2) (Ex σ)
/-- C(k = v, ..) -/
theorem pe_makeKS (M : Mk X.K C f) (F : FnOk X.prog X.w X.K X.mg X.base CX k f fd ps sp) (room : Room (k + 1) X.A) (hg : Gl X x) (hm : X.mg x = some (.ref C)) (hb : KBn X.K fd ps 1 ks g gV) (pass : ∀ σ, PassesAt CX X σ (Ex σ)) (hkw : PK X kws t)
    (hall : (backToKw pos (keywordEach kws X.env)).all (·.1.isSome) = true := by rfl) (hks : (backToKw pos (keywordEach kws X.env)).filterMap (·.1) = ks := by rfl) (hdb : (x == ("__debug__" : Str)) = false := by decide)
    (hpl : ((backTo pos (starEach [] X.env)).any (·.1) || (backToKw pos (keywordEach kws X.env)).any (·.1.isNone)) = false := by rfl) :
    PE X (.Call (.Name x p) [] kws pos) (tMakeKS C ks.length sp gV Ex t) := by
  refine ⟨fun pins s σ H Q I h => wpAny_Call_Name_kw (ld_glob I hg hm (PySem.W.callWith_KW0 (h₀ := X.base) I.ok.mod.kin M.kp hall (thn (hkw.run pos pins s σ H _ I h) fun ws s1 ⟨zs, H1, J, r, l, q⟩ => ⟨J.kIn, ?_⟩) hpl) hdb)⟩
  rw [hks]
  exact make_at M F room (pass σ) J (fun a => g [.ref a] ws) (fun a => gV [.ref a] zs) (fun a => hb.rel (.cons rfl .nil) r) (fun z a kin _ => hb.to z [.ref a] ws kin rfl (r.length.symm.trans l)) q
end
end Rw
namespace Rw
open PySem PySem.Spec PyProof.Rows L2
/-- how keywords bind, no defaults at all -/
theorem kb_of {K : PySem.W.Frag} {x qual : Str} {params : Arguments} {body : List Stmt} {scope : Scope} {kws : List (Str × V)} {f : Addr} {fd : FuncData} {ps ks : List Str} {n : Nat} {g : List Value → List Value → List Value} {gV : List V → List V → List V}
    (F : FunD K x qual params body scope [] kws f fd) (rel : ∀ {vs : List V} {us : List Value} {zs : List V} {ws : List Value}, Vals vs us → Vals zs ws → Vals (gV vs zs) (g us ws))
    (h : ∀ (kV doc pm : Value) (an : Option Addr) (cdv ct : Value) (us ws : List Value), us.length = n → ws.length = ks.length → bindArgs (PySem.W.fnOf x qual params body scope .none kV doc pm an cdv ct) ⟨us, ks.zip ws⟩ = pure (ps.zip (g us ws))) : KBn K fd ps n ks g gV := by
  obtain ⟨oc, od, dV, kV, doc, pm, an, cdv, ct, osl, rfl, lk, hcd, hD, hK⟩ := F.ex
  rcases hD with ⟨_, rfl⟩ | ⟨e, _⟩
  · exact ⟨fun s us ws _ l1 l2 => by
      intro M A E Q q
      rw [h kV doc pm an cdv ct us ws l1 l2]
      exact wpAny_pure q, rel⟩
  · exact absurd rfl e
/-- no exception gets out -/
theorem ok_to0 {P : Program} {w : World} {K : PySem.W.Frag} {mg : Str → Option Value} {base : Heap} {k : Nat} {f : Addr} {fd : FuncData} {ps : List Str} {sp : Sp} (F : FnOk P w K mg base (CX P w) k f fd ps sp) : FnOk P w K mg base CX0 k f fd ps (fun vs H Q _ => sp vs H Q E0) := by
  refine ⟨fun vs H Q E h => F.len vs H Q _ h, fun A outer s H args us vs Q E hr e0 hb r hs => ?_⟩
  refine codeAny_mono (F.run A outer s H args us vs Q E0 hr e0 hb r hs) fun r s1 z => ?_
  match r, z with
  | .error e, z =>
    obtain ⟨a, B, H', cls, d, _, _, _, _, _, _, _, q⟩ := z
    exact absurd q (fun z => (z : False))
  | .ok (.ret u), z => exact z
  | .ok .next, z => exact z
  | .ok .brk, z => exact z
  | .ok .cont, z => exact z
end Rw

set_option Elab.async false
set_option linter.all false
set_option maxRecDepth 100000
set_option maxHeartbeats 4000000
namespace K58
open PySem PySem.Spec PyProof.Rows L2 Rw
abbrev sBuilt : Stmt := top 23
abbrev NBuilt : List Str := ["letters_now", "classes_now", "is_named", "found", "it", "e"]
/-- what _law_built tells -/
def spBuilt : Sp := fun vs H Q _ => ∃ (v u : V) (b : Bool) (ok : Addr → Prop) (dl dc : PyData), vs = [v, u, .bl b] ∧ Dq H ok v dl ∧ Dq H ok u dc ∧ (∀ z, dl = .str z → z.length ≤ 60) ∧ (∀ ds, dc = .tuple ds → ds.length ≤ 1000) ∧
  (∀ ms : List Int, heardD dl = true → dc = .tuple (ms.map .int) → classesD dc = true → ∀ l p H', Same H H' → H' p = some (.tup (nums (norm ms))) → H' l = some (.lst [v, .ref p]) → Q (.ref l) H') ∧
  (∀ s l H', badV dl dc = .str s → Same H H' → H' l = some (.lst [.str "bad", .str s, .bl true]) → Q (.ref l) H')
section
variable {P : Program} {w : World} {K : PySem.W.Frag} {mg : Str → Option Value} {base : Heap} {cB cO cL cW : Addr}
theorem Dq.up {H H' : Hp} {ok : Addr → Prop} {v : V} {d : PyData} (h : Dq H ok v d) (s : Same H H') : Dq H' ok v d := Dq.to h s
structure Tz (P : Program) (K : PySem.W.Frag) (mg : Str → Option Value) (cB cO cL cW fI : Addr) : Prop extends Tx P K mg cB cO cL where
  gl : mg "Onlooker" = some (.ref cL)
  gw : mg "WardError" = some (.ref cW)
  mkL : Mk K cL fI
  wk : WxK K
  kitB : PySem.W.kitOne K (.ref cB) (.ref cW) = some true
  exB : PySem.W.exmOne K (.ref cB) (.ref cB) = some true
theorem pe_fldK {X : Cx} {K : PySem.W.Frag} {e : Expr} {f : Str} {pos : Pos} {ta : TE} (hK : X.K = K) (he : PE X e ta) (hb : attributeBase e f X.env (eval e X.env) = eval e X.env := by rfl) : PE X (.Attribute e f pos) (tFld K ta f) := by
  subst hK
  exact pe_fld he hb
theorem scBuilt : FnScope NBuilt ["letters_now", "classes_now", "is_named"] (defScope sBuilt) := ⟨rfl, rfl, rfl, by decide +kernel, rfl, by decide +kernel, by decide +kernel⟩
theorem ok_built {f fO fH fI fA fN : Addr} {fd fdO fdH fdI fdA fdN : FuncData} (F : FunD K "_law_built" "_law_built" (defArgs sBuilt) (defBody sBuilt) (defScope sBuilt) [] [] f fd) (T : Tz P K mg cB cO cL cW fO)
    (FO : FunD K "__init__" "Onlooker.__init__" (defArgs sInit) (defBody sInit) (defScope sInit) [] [] fO fdO)
    (FH : FunD K "is_heard" "is_heard" (defArgs sIsH) (defBody sIsH) (defScope sIsH) [] [] fH fdH) (mH : mg "is_heard" = some (.ref fH))
    (FI : FunD K "is_integer" "is_integer" (defArgs sIsI) (defBody sIsI) (defScope sIsI) [] [] fI fdI) (mI : mg "is_integer" = some (.ref fI))
    (FA : FunD K "are_classes" "are_classes" (defArgs sAreC) (defBody sAreC) (defScope sAreC) [] [] fA fdA) (mA : mg "are_classes" = some (.ref fA))
    (FN : FunD K "put_anew" "put_anew" (defArgs sPA) (defBody sPA) (defScope sPA) [] [] fN fdN) (mN : mg "put_anew" = some (.ref fN)) :
    FnOk P w K mg base CX0 5 f fd ["letters_now", "classes_now", "is_named"] spBuilt := by
  have GO : FnOk P w K mg base (CX P w) 3 fO fdO ["self", "letters", "classes"] (spInit cB cL) := ok_init FO T.toTx FH mH FI mI FA mA FN mN
  have bO : Binds K fdO ["self", "letters", "classes"] [] := FO.bindsN fun _ _ _ _ _ _ us hl => match us, hl with | [_, _, _], _ => rfl
  have kO : KBn K fdO ["self", "letters", "classes"] 1 ["classes", "letters"] (fun us ws => us ++ ws.reverse) (fun vs zs => vs ++ zs.reverse) := kb_of FO (fun r1 r2 => r1.append r2.reverse) fun _ _ _ _ _ _ us ws l1 l2 => match us, ws, l1, l2 with | [_], [_, _], _, _ => rfl
  refine ok_to0 (sp := spBuilt) (F.ok scBuilt (fun vs H Q E h => ?_) (fun cdv A outer s H vs Q E hr h => ?_))
  · obtain ⟨_, _, _, _, _, _, rfl, _⟩ := h
    rfl
  obtain ⟨v, u, b, ok, dl, dc, rfl, hv, hu, hvl, hul, hgood, hbad⟩ := h
  refine ⟨_, pss_cons (ps_set (i := 3) scBuilt.nd rfl (by first | exact Or.inl rfl | exact Or.inr rfl) pe_non)
    (pss_cons (ps_try_as (i := 5) rfl rfl scBuilt.nd rfl rfl ⟨rfl, rfl, .inl T.gb⟩ (takes_of rfl rfl rfl rfl)
      (fun W pn xe tk pa => pss_cons (ps_set (i := 4) scBuilt.nd rfl (by first | exact Or.inl rfl | exact Or.inr rfl)
          (pe_ifExp (pt_val (pv 2)) (pe_makeKS T.mkL GO hr rfl T.gl kO (L2.passAt tk) (pk_cons (pv 1) (pk_cons (pv 0) pk_nil))) (pe_makeS T.mkL GO hr rfl T.gl bO (L2.passAt tk) (pa_cons (pv 0) (pa_cons (pv 1) pa_nil)))))
        (pss_one (ps_set (i := 3) scBuilt.nd rfl (by first | exact Or.inl rfl | exact Or.inr rfl) (pe_lst (pa_cons (pe_fldK (K := K) rfl (pv 4)) (pa_cons (pe_fldK (K := K) rfl (pv 4)) pa_nil))))))
      (fun a oe cls d' pn hz hf => pss_one (ps_set (i := 3) scBuilt.nd rfl (by first | exact Or.inl rfl | exact Or.inr rfl) (pe_lst (pa_cons pe_str (pa_cons (pe_xf (C := cB) ⟨T.wb.ga, T.wb.gg, T.wb.exC, T.wb.hd⟩ T.wb.no hz hf (pv 5)) (pa_cons
        (pe_callB (call_isH2 T.wk hz hf) (by rfl) T.isin PyProof.Rows.boot_isinstance (pa_cons (pv 5) (pa_cons (pe_glob rfl T.gw (rel_ref _)) pa_nil))) pa_nil)))))))
    (pss_one (ps_ret (pv 3)))), ?_⟩
  have s1 : ∀ x dx : Addr, H x = none → H dx = none → dx ≠ x → Same H (upd (upd H dx (.own x)) x (.ins cL dx [])) := fun x dx fx fdx ne a o z => by
    rw [upd_ne (ne_of_none z fx), upd_ne (ne_of_none z fdx)]
    exact z
  cases b
  case' false => refine ⟨_, rfl, _, rfl, iteF ⟨_, rfl, _, rfl, fun x dx fx fdx ne => ?_⟩⟩
  case' true => refine ⟨_, rfl, _, rfl, iteT ⟨_, rfl, _, rfl, rfl, fun x dx fx fdx ne => ?_⟩⟩
  all_goals
    refine ⟨x, dx, v, u, ok, dl, dc, rfl, upd_same, Dq.to hv (s1 x dx fx fdx ne), Dq.to hu (s1 x dx fx fdx ne), hvl, hul, fun ms e1 e2 e3 p H' sx fp gp gx => ⟨rfl, ?_⟩, fun s d H' eb s2 fd gd => ?_⟩
    · refine ⟨_, rfl, x, cL, dx, _, v, rfl, gx, T.cl, T.n1, rfl, _, rfl, x, cL, dx, _, .ref p, rfl, gx, T.cl, T.n2, rfl, by show 2 ≤ sizeLine; decide, fun l fl => ?_⟩
      have s3 : Same H H' := fun a o z => sx a o (s1 x dx fx fdx ne a o z) (ne_of_none z fx)
      exact ⟨_, rfl, hgood ms e1 e2 e3 l p _ (s3.trans (same_new fl)) (same_new fl _ _ gp) upd_same⟩
    · refine ⟨true, T.exB, fun _ ae fae => ?_, fun z => nomatch z⟩
      refine ⟨_, rfl, rfl, rfl, d, _, .str s, rfl, gd, rfl, ?_⟩
      refine ⟨_, rfl, cB, _, _, true, rfl, T.wb.toXcC, rfl, fun dd e => ⟨_, by cases e; exact gd⟩, .own _, T.kitB, by show 3 ≤ sizeLine; decide, fun l fl => ?_⟩
      exact ⟨_, rfl, hbad s l _ eb (((s1 x dx fx fdx ne).trans s2).trans (same_new fl)) upd_same⟩
end
end K58

set_option Elab.async false
set_option linter.all false
set_option maxRecDepth 100000
set_option maxHeartbeats 4000000
/-! expressions whose value is data: what is told of them goes together -/
namespace Rw
open PySem PySem.Spec PyProof.Rows L2
/-- what stands around: kept as the heap grows -/
structure Env1 where
  has : Hp → (Addr → Prop) → Prop
  mono : ∀ {H H' : Hp} {ok : Addr → Prop}, Same H H' → has H ok → has H' ok
def noEnv : Env1 := ⟨fun _ _ => True, fun _ h => h⟩
/-- its value is the data d -/
def DE (G : Env1) (σ : L2.St) (te : TE) (d : PyData) : Prop := ∀ (H : Hp) (ok : Addr → Prop) (Q : VK), G.has H ok → (∀ a, H a = none → ok a) → (∀ v H', Same H H' → Dq H' ok v d → Q v H') → te σ H Q
def DA (G : Env1) (σ : L2.St) (t : TA) (ds : List PyData) : Prop := ∀ (H : Hp) (ok : Addr → Prop) (Q : List V → Hp → Prop), G.has H ok → (∀ a, H a = none → ok a) → (∀ vs H', Same H H' → DqAll H' ok vs ds → Q vs H') → t σ H Q
section
variable {G : Env1} {σ : L2.St}
theorem free_ok {H H' : Hp} {ok : Addr → Prop} (s : Same H H') (f : ∀ a, H a = none → ok a) : ∀ a, H' a = none → ok a := fun a h => f a (s.free h)
theorem Dq.grow {H H' : Hp} {ok : Addr → Prop} {v : V} {d : PyData} (h : Dq H ok v d) (s : Same H H') : Dq H' ok v d := h.mono fun a o k z => ⟨s a o z, k⟩
theorem DqAll.grow {H H' : Hp} {ok : Addr → Prop} {vs : List V} {ds : List PyData} (h : DqAll H ok vs ds) (s : Same H H') : DqAll H' ok vs ds := h.mono fun a o k z => ⟨s a o z, k⟩
theorem DE.non : DE G σ (tC .non) .none := fun H ok Q _ _ q => q _ _ (Same.refl _) .non
theorem DE.bl (b : Bool) : DE G σ (tC (.bl b)) (.bool b) := fun H ok Q _ _ q => q _ _ (Same.refl _) (.bl b)
theorem DE.int (i : Int) : DE G σ (tC (.int i)) (.int i) := fun H ok Q _ _ q => q _ _ (Same.refl _) (.int i)
theorem DE.str (x : Str) : DE G σ (tC (.str x)) (.str x) := fun H ok Q _ _ q => q _ _ (Same.refl _) (.str x)
theorem DE.neg (i : Int) : DE G σ (tUn (rU fun i => .int (-i)) (tC (.int i))) (.int (-i)) := fun H ok Q _ _ q => ⟨i, rfl, q _ _ (Same.refl _) (.int _)⟩
theorem DE.pow {i j : Int} (h : CPow i j) : DE G σ (tOp (rI CPow fun i j => .int (i ^ j.toNat)) (tC (.int i)) (tC (.int j))) (.int (i ^ j.toNat)) := fun H ok Q _ _ q => ⟨i, j, rfl, rfl, h, q _ _ (Same.refl _) (.int _)⟩
theorem DE.var {i : Nat} {v : V} {d : PyData} (hi : σ[i]? = some (some v)) (h : ∀ H ok, G.has H ok → Dq H ok v d) : DE G σ (tVar i) d := fun H ok Q g _ q => ⟨v, hi, q _ _ (Same.refl _) (h H ok g)⟩
theorem DE.dic0 : DE G σ tDNewK (.dict []) := fun H ok Q _ f q p hp => q _ _ (same_new hp) (.dic (f p hp) upd_same .nil .nil)
theorem DA.nil : DA G σ tNil [] := fun H ok Q _ _ q => q _ _ (Same.refl _) .nil
theorem DA.cons {te : TE} {t : TA} {d : PyData} {ds : List PyData} (h1 : DE G σ te d) (h2 : DA G σ t ds) : DA G σ (tCons te t) (d :: ds) := fun H ok Q g f q =>
  h1 H ok _ g f fun v H1 s1 r1 => h2 H1 ok _ (G.mono s1 g) (free_ok s1 f) fun vs H2 s2 r2 => q _ _ (s1.trans s2) (.cons (Dq.grow r1 s2) r2)
theorem DE.tup {t : TA} {ds : List PyData} (h : DA G σ t ds) (l : ds.length ≤ 1000) : DE G σ (tTup t) (.tuple ds) := fun H ok Q g f q =>
  h H ok _ g f fun vs H1 s1 r => ⟨Nat.le_trans (by rw [r.len]; exact l) (by decide), fun p hp => q _ _ (s1.trans (same_new hp)) (.tup (f p (s1.free hp)) upd_same (DqAll.grow r (same_new hp)))⟩
theorem DE.lst {t : TA} {ds : List PyData} (h : DA G σ t ds) (l : ds.length ≤ 1000) : DE G σ (tLst t) (.list ds) := fun H ok Q g f q =>
  h H ok _ g f fun vs H1 s1 r => ⟨Nat.le_trans (by rw [r.len]; exact l) (by decide), fun p hp => q _ _ (s1.trans (same_new hp)) (.lst (f p (s1.free hp)) upd_same (DqAll.grow r (same_new hp)))⟩
/-- a new list of such -/
def LE (G : Env1) (σ : L2.St) (te : TE) (ds : List PyData) : Prop := ∀ (H : Hp) (ok : Addr → Prop) (Q : VK), G.has H ok → (∀ a, H a = none → ok a) → (∀ l vs H', Same H H' → ok l → H' l = some (.lst vs) → DqAll H' ok vs ds → Q (.ref l) H') → te σ H Q
theorem LE.lst {t : TA} {ds : List PyData} (h : DA G σ t ds) (l : ds.length ≤ 1000) : LE G σ (tLst t) ds := fun H ok Q g f q =>
  h H ok _ g f fun vs H1 s1 r => ⟨Nat.le_trans (by rw [r.len]; exact l) (by decide), fun p hp => q p vs _ (s1.trans (same_new hp)) (f p (s1.free hp)) upd_same (DqAll.grow r (same_new hp))⟩
theorem LE.var {i : Nat} {l : Addr} {vs : List V} {ds : List PyData} (hi : σ[i]? = some (some (.ref l))) (h : ∀ H ok, G.has H ok → ok l ∧ H l = some (.lst vs) ∧ DqAll H ok vs ds) : LE G σ (tVar i) ds := fun H ok Q g _ q => by
  obtain ⟨h1, h2, h3⟩ := h H ok g
  exact ⟨_, hi, q l vs _ (Same.refl _) h1 h2 h3⟩
/-- x + [..] -/
theorem LE.cat {te tf : TE} {ds es : List PyData} (h1 : LE G σ te ds) (h2 : LE G σ tf es) (l : ds.length + es.length ≤ 1000) : LE G σ (tOp rCat te tf) (ds ++ es) := fun H ok Q g f q =>
  h1 H ok _ g f fun a vs H1 s1 _ g1 r1 => h2 H1 ok _ (G.mono s1 g) (free_ok s1 f) fun b ws H2 s2 _ g2 r2 =>
    ⟨a, b, vs, ws, rfl, rfl, s2 _ _ g1, g2, Nat.le_trans (by rw [r1.len, r2.len]; exact l) (by decide), fun p hp => q p _ _ ((s1.trans s2).trans (same_new hp)) (f p ((s1.trans s2).free hp)) upd_same (DqAll.append (DqAll.grow (DqAll.grow r1 s2) (same_new hp)) (DqAll.grow r2 (same_new hp)))⟩
theorem rep_dq {H : Hp} {ok : Addr → Prop} {vs : List V} {ds : List PyData} (r : DqAll H ok vs ds) : ∀ n : Nat, DqAll H ok (List.replicate n vs).flatten (List.replicate n ds).flatten
  | 0 => .nil
  | n + 1 => by
    rw [List.replicate_succ, List.replicate_succ, List.flatten_cons, List.flatten_cons]
    exact DqAll.append r (rep_dq r n)
/-- [..] * n -/
theorem LE.rep {te : TE} {ds : List PyData} {n : Nat} (h : LE G σ te ds) (l : ds.length * n ≤ 1000) (hn : n ≤ 1000) : LE G σ (tOp rRep te (tC (.int (n : Int)))) (List.replicate n ds).flatten := fun H ok Q g f q =>
  h H ok _ g f fun a vs H1 s1 _ g1 r1 => ⟨a, n, vs, rfl, rfl, g1, by omega, by omega, Nat.le_trans (by rw [r1.len]; exact l) (by decide), fun p hp => q p _ _ (s1.trans (same_new hp)) (f p (s1.free hp)) upd_same (DqAll.grow (rep_dq r1 n) (same_new hp))⟩
end
end Rw

set_option Elab.async false
set_option linter.all false
set_option maxRecDepth 100000
set_option maxHeartbeats 4000000
namespace Rw
open PySem PySem.Spec PyProof.Rows L2
def cutG {α : Type} (xs : List α) (lo hi : Option Int) : List α := (xs.drop (HT.sIx xs.length 0 lo)).take (HT.sIx xs.length xs.length hi - HT.sIx xs.length 0 lo)
theorem cutG_whole {α : Type} {xs : List α} {lo hi : Option Int} (h : HT.sIx xs.length 0 lo = 0 ∧ HT.sIx xs.length xs.length hi = xs.length) : cutG xs lo hi = xs := by
  unfold cutG
  rw [h.1, h.2, List.drop_zero, Nat.sub_zero, List.take_length]
theorem cutG_len {α : Type} (xs : List α) (lo hi : Option Int) : (cutG xs lo hi).length ≤ xs.length := by
  unfold cutG
  rw [List.length_take, List.length_drop]
  omega
theorem DqAll.drop {H : Hp} {ok : Addr → Prop} : ∀ (n : Nat) {vs : List V} {ds : List PyData}, DqAll H ok vs ds → DqAll H ok (vs.drop n) (ds.drop n)
  | 0, _, _, h => h
  | n + 1, _, _, .nil => .nil
  | n + 1, _, _, .cons _ t => DqAll.drop n t
theorem DqAll.take {H : Hp} {ok : Addr → Prop} : ∀ (n : Nat) {vs : List V} {ds : List PyData}, DqAll H ok vs ds → DqAll H ok (vs.take n) (ds.take n)
  | 0, _, _, _ => .nil
  | n + 1, _, _, .nil => .nil
  | n + 1, _, _, .cons h t => .cons h (DqAll.take n t)
theorem DqAll.cut {H : Hp} {ok : Addr → Prop} {vs : List V} {ds : List PyData} (h : DqAll H ok vs ds) (lo hi : Option Int) : DqAll H ok (cutG vs lo hi) (cutG ds lo hi) := by
  unfold cutG
  rw [h.len]
  exact DqAll.take _ (DqAll.drop _ h)
theorem DqAll.rev {H : Hp} {ok : Addr → Prop} : ∀ {vs : List V} {ds : List PyData}, DqAll H ok vs ds → DqAll H ok vs.reverse ds.reverse
  | _, _, .nil => .nil
  | _, _, .cons h t => by
    rw [List.reverse_cons, List.reverse_cons]
    exact DqAll.append (DqAll.rev t) (.cons h .nil)
section
variable {G : Env1} {σ : L2.St} {K : PySem.W.Frag}
theorem tup_at {H : Hp} {ok : Addr → Prop} {v : V} {ds : List PyData} (h : Dq H ok v (.tuple ds)) : ∃ a xs, v = .ref a ∧ ok a ∧ H a = some (.tup xs) ∧ DqAll H ok xs ds := by
  cases h with
  | tup h1 h2 h3 => exact ⟨_, _, rfl, h1, h2, h3⟩
/-- a bound of a slice, written or left out -/
def PO1 (σ : L2.St) (t : TO) (i : Option Int) : Prop := ∀ (H : Hp) (Q : Option Int → Hp → Prop), Q i H → t σ H Q
theorem po1_no : PO1 σ tNoPart none := fun _ _ h => h
theorem po1_int (i : Int) : PO1 σ (tPart (tC (.int i))) (some i) := fun _ _ h => ⟨i, rfl, h⟩
theorem po1_neg (i : Int) : PO1 σ (tPart (tUn (rU fun i => .int (-i)) (tC (.int i)))) (some (-i)) := fun _ _ h => ⟨i, rfl, -i, rfl, h⟩
theorem po1_var {j : Nat} {i : Int} (h : σ[j]? = some (some (.int i))) : PO1 σ (tPart (tVar j)) (some i) := fun _ _ q => ⟨_, h, i, rfl, q⟩
theorem po1_succ {j : Nat} {i k : Int} (h : σ[j]? = some (some (.int i))) : PO1 σ (tPart (tOp (rI0 fun i j => .int (i + j)) (tVar j) (tC (.int k)))) (some (i + k)) := fun _ _ q => ⟨_, h, _, _, rfl, rfl, _, rfl, q⟩
theorem DE.slice {te : TE} {tl th : TO} {ds : List PyData} {lo hi : Option Int} (h : DE G σ te (.tuple ds)) (hl : PO1 σ tl lo) (hh : PO1 σ th hi) : DE G σ (tSl (rSlA K) te tl th) (.tuple (cutG ds lo hi)) := fun H ok Q g f q =>
  h H ok _ g f fun v H1 s1 r => hl H1 _ (hh H1 _ (by
    obtain ⟨a, xs, rfl, ha, hx, r2⟩ := tup_at r
    refine ⟨a, xs, rfl, SqT.of hx, fun w => ?_, fun w p hp => ?_⟩
    · refine q _ _ s1 (.tup ha hx ?_)
      have : cutG ds lo hi = ds := cutG_whole (by rw [← r2.len]; exact w)
      rw [this]
      exact r2
    · exact q _ _ (s1.trans (same_new hp)) (.tup (f p (s1.free hp)) upd_same (DqAll.grow (r2.cut lo hi) (same_new hp)))))
theorem DE.revT {te : TE} {ds : List PyData} (h : DE G σ te (.tuple ds)) : DE G σ (tRevT K te) (.tuple ds.reverse) := fun H ok Q g f q =>
  h H ok _ g f fun v H1 s1 r => by
    obtain ⟨a, xs, rfl, ha, hx, r2⟩ := tup_at r
    exact ⟨a, xs, rfl, SqT.of hx, fun p hp => q _ _ (s1.trans (same_new hp)) (.tup (f p (s1.free hp)) upd_same (DqAll.grow r2.rev (same_new hp)))⟩
theorem DE.catT {te tf : TE} {ds es : List PyData} (h1 : DE G σ te (.tuple ds)) (h2 : DE G σ tf (.tuple es)) (l : ds.length + es.length ≤ 1000) : DE G σ (tOp (rCatA K) te tf) (.tuple (ds ++ es)) := fun H ok Q g f q =>
  h1 H ok _ g f fun v H1 s1 r1 => h2 H1 ok _ (G.mono s1 g) (free_ok s1 f) fun u H2 s2 r2 => by
    obtain ⟨a, xs, rfl, ha, hx, r3⟩ := tup_at (Dq.grow r1 s2)
    obtain ⟨b, ys, rfl, hb, hy, r4⟩ := tup_at r2
    have s12 := s1.trans s2
    refine ⟨a, b, xs, ys, rfl, rfl, SqT.of hx, SqT.of hy, Nat.le_trans (by rw [r3.len, r4.len]; exact l) (by decide), fun e => ?_, fun e1 e2 => ?_, fun _ _ p hp => ?_⟩
    · subst e
      cases r3
      exact q _ _ s12 (.tup hb hy r4)
    · subst e2
      cases r4
      refine q _ _ s12 (.tup ha hx ?_)
      rw [List.append_nil]
      exact r3
    · exact q _ _ (s12.trans (same_new hp)) (.tup (f p (s12.free hp)) upd_same (DqAll.grow (DqAll.append r3 r4) (same_new hp)))
/-- list(t) -/
def rListOf (K : PySem.W.Frag) : List V → Hp → VK → Prop := fun xs H Q => ∃ p ys, xs = [.ref p] ∧ (SqL K H p ys ∨ SqT K H p ys) ∧ ∀ l, H l = none → Q (.ref l) (upd H l (.lst ys))
theorem DE.listT {te : TE} {ds : List PyData} (h : DE G σ te (.tuple ds)) : DE G σ (tCB (rListOf K) (tCons te tNil)) (.list ds) := fun H ok Q g f q =>
  h H ok _ g f fun v H1 s1 r => by
    obtain ⟨a, xs, rfl, ha, hx, r2⟩ := tup_at r
    exact ⟨a, xs, rfl, .inr (SqT.of hx), fun l hl => q _ _ (s1.trans (same_new hl)) (.lst (f l (s1.free hl)) upd_same (DqAll.grow r2 (same_new hl)))⟩
/-- of an int -/
theorem DE.addI {te tf : TE} {i j : Int} (h1 : DE G σ te (.int i)) (h2 : DE G σ tf (.int j)) : DE G σ (tOp (rI0 fun i j => .int (i + j)) te tf) (.int (i + j)) := fun H ok Q g f q =>
  h1 H ok _ g f fun v H1 s1 r1 => h2 H1 ok _ (G.mono s1 g) (free_ok s1 f) fun u H2 s2 r2 => by
    cases r1
    cases r2
    exact ⟨i, j, rfl, rfl, q _ _ (s1.trans s2) (.int _)⟩
theorem DE.subI {te tf : TE} {i j : Int} (h1 : DE G σ te (.int i)) (h2 : DE G σ tf (.int j)) : DE G σ (tOp (rI0 fun i j => .int (i - j)) te tf) (.int (i - j)) := fun H ok Q g f q =>
  h1 H ok _ g f fun v H1 s1 r1 => h2 H1 ok _ (G.mono s1 g) (free_ok s1 f) fun u H2 s2 r2 => by
    cases r1
    cases r2
    exact ⟨i, j, rfl, rfl, q _ _ (s1.trans s2) (.int _)⟩
theorem DE.eqI {te tf : TE} {i j : Int} (h1 : DE G σ te (.int i)) (h2 : DE G σ tf (.int j)) : DE G σ (tOp rEq te tf) (.bool (decide (i = j))) := fun H ok Q g f q =>
  h1 H ok _ g f fun v H1 s1 r1 => h2 H1 ok _ (G.mono s1 g) (free_ok s1 f) fun u H2 s2 r2 => by
    cases r1
    cases r2
    refine ⟨rfl, ?_⟩
    have e : decide (V.int i = V.int j) = decide (i = j) := by simp
    rw [e]
    exact q _ _ (s1.trans s2) (.bl _)
/-- of a text -/
theorem DE.addS {te tf : TE} {x y : Str} (h1 : DE G σ te (.str x)) (h2 : DE G σ tf (.str y)) (l : x.length + y.length ≤ 1000) : DE G σ (tOp (fun x y H Q => ∃ i j, x = .str i ∧ y = .str j ∧ i.length + j.length ≤ sizeLine ∧ Q (.str (i ++ j)) H) te tf) (.str (x ++ y)) := fun H ok Q g f q =>
  h1 H ok _ g f fun v H1 s1 r1 => h2 H1 ok _ (G.mono s1 g) (free_ok s1 f) fun u H2 s2 r2 => by
    cases r1
    cases r2
    exact ⟨x, y, rfl, rfl, Nat.le_trans l (by decide), q _ _ (s1.trans s2) (.str _)⟩
theorem DE.revS {te : TE} {x : Str} (h : DE G σ te (.str x)) (l : x.length ≤ 1000) : DE G σ (tRevS te) (.str (Rw.revS x)) := fun H ok Q g f q =>
  h H ok _ g f fun v H1 s1 r => by
    cases r
    exact ⟨x, rfl, Nat.le_trans l (by decide), q _ _ s1 (.str _)⟩
theorem dq_texts {H : Hp} {ok : Addr → Prop} : ∀ xs : List Str, DqAll H ok (xs.map V.str) (xs.map PyData.str)
  | [] => .nil
  | x :: r => .cons (.str x) (dq_texts r)
theorem DE.listS {te : TE} {x : Str} (h : DE G σ te (.str x)) (l : x.length ≤ 1000) : DE G σ (tCB rListText (tCons te tNil)) (.list ((signs x).map .str)) := fun H ok Q g f q =>
  h H ok _ g f fun v H1 s1 r => by
    cases r
    exact ⟨x, rfl, Nat.le_trans l (by decide), fun p hp => q _ _ (s1.trans (same_new hp)) (.lst (f p (s1.free hp)) upd_same (dq_texts _))⟩
end
end Rw

set_option Elab.async false
set_option linter.all false
namespace Rw
open PySem PySem.Spec PyProof.Rows L2
section
variable {X : Cx} {CX : CXT} {C g : Addr} {n : Nat} {sp : Sp} {E : XK}
/-- x == y, x an instance of the class at C whose own == is at g; y another one -/
def rOwnI (C : Addr) (sp : Sp) (E : XK) : R2 := fun x y H Q => ∃ a dx fs b dy gs, x = .ref a ∧ y = .ref b ∧ H a = some (.ins C dx fs) ∧ H b = some (.ins C dy gs) ∧ sp [x, y] H Q E
theorem op_eqOwn (hs : PySem.W.findIn X.K (.ref C) "__eq__" = some (some (.ref g))) (hf : PySem.W.isFn X.K (.ref g) = true) (F : FnR X.prog X.w X.K X.mg X.base CX n g sp)
    (hr : Room n X.A) (hx : Passes CX X E) : OpR X (compareOp .Eq) (rOwnI C sp E) := by
  intro pins s σ H x y v u Q I rx ry h
  obtain ⟨a, dx, vs, b, dy, ws, rfl, rfl, ha, hb, q⟩ := h
  cases (show v = Value.ref a from rx)
  cases (show u = Value.ref b from ry)
  obtain ⟨mA, J, _⟩ := ins_get I.hok ha
  obtain ⟨mB, J', _⟩ := ins_get I.hok hb
  obtain ⟨od, J, _⟩ := J.look
  obtain ⟨od', J', _⟩ := J'.look
  obtain ⟨m, hF⟩ := I.fr
  show wpAny (model X.prog X.w) X.A (richCompare .Eq (.ref a) (.ref b)) (EP X pins σ Q) X.xe s
  refine PySem.W.cmp_K (op := .Eq) (tb := .ref C) hr.units0 hF I.ok.mod.kin J J'.type (by simp [PySem.W.notFirst]) hs hf ?_
  refine wpAny_mono (wpAny_call (run_fnR (us := [.ref a, .ref b]) (vs := [.ref a, .ref b]) F hr hx I (.cons rfl (.cons rfl .nil)) q)) (fun w s' z => ?_) fun _ _ x => x
  obtain ⟨z', H', I', rz, qz⟩ := z
  exact SlX.cmpback rz ⟨z', H', I', rz, qz⟩
/-- plain data beside it -/
inductive Beside (H : Hp) : V → String → Prop
  | non : Beside H .non "NoneType"
  | str (x : Str) : Beside H (.str x) "str"
  | lst {a : Addr} {xs : List V} : H a = some (.lst xs) → Beside H (.ref a) "list"
  | tup {a : Addr} {xs : List V} : H a = some (.tup xs) → Beside H (.ref a) "tuple"
theorem Beside.looks {pins : List (Addr × Obj)} {σ : L2.St} {H : Hp} {s : Shared} {y : V} {n : String} {u : Value} (I : Inv X pins σ H s) (r : RelV y u) (b : Beside H y n) : PySem.W.Looks (model X.prog X.w) s.heap (typeOf u) (.type n) := by
  cases b with
  | non => cases (show u = Value.none from r); exact PySem.W.Looks.of_pure rfl
  | str x => obtain ⟨t, e⟩ := (show ∃ t, u = Value.str x t from r); cases e; exact PySem.W.Looks.of_pure rfl
  | lst h =>
    rename_i a xs
    cases (show u = Value.ref a from r)
    obtain ⟨its, rv, ⟨o, _, hg, hc, _⟩, _⟩ := I.list (SqL.of h)
    exact fun A Q E s k q => wpAny_typeOf_ref (k _ _ hg) (by rw [hc]; exact q)
  | tup h =>
    rename_i a xs
    cases (show u = Value.ref a from r)
    obtain ⟨its, rv, ⟨o, hg, hc, hd⟩, _⟩ := I.tuple (SqT.of h)
    exact fun A Q E s k q => wpAny_typeOf_ref (k _ _ hg) (by rw [hc]; exact q)
/-- x == y, y plain data -/
def rOwnD (K : PySem.W.Frag) (C : Addr) (sp : Sp) (E : XK) : R2 := fun x y H Q => ∃ a dx fs n, x = .ref a ∧ H a = some (.ins C dx fs) ∧ Beside H y n ∧ PySem.W.notFirst K C (.type n) = true ∧ sp [x, y] H Q E
theorem op_eqOwnD (hs : PySem.W.findIn X.K (.ref C) "__eq__" = some (some (.ref g))) (hf : PySem.W.isFn X.K (.ref g) = true) (F : FnR X.prog X.w X.K X.mg X.base CX n g sp)
    (hr : Room n X.A) (hx : Passes CX X E) : OpR X (compareOp .Eq) (rOwnD X.K C sp E) := by
  intro pins s σ H x y v u Q I rx ry h
  obtain ⟨a, dx, vs, k, rfl, ha, hb, hn, q⟩ := h
  cases (show v = Value.ref a from rx)
  obtain ⟨mA, J, _⟩ := ins_get I.hok ha
  obtain ⟨od, J, _⟩ := J.look
  obtain ⟨m, hF⟩ := I.fr
  show wpAny (model X.prog X.w) X.A (richCompare .Eq (.ref a) u) (EP X pins σ Q) X.xe s
  refine PySem.W.cmp_K (op := .Eq) (tb := .type k) hr.units0 hF I.ok.mod.kin J (hb.looks I ry) hn hs hf ?_
  refine wpAny_mono (wpAny_call (run_fnR (us := [.ref a, u]) (vs := [.ref a, y]) F hr hx I (.cons rfl (.cons ry .nil)) q)) (fun w s' z => ?_) fun _ _ x => x
  obtain ⟨z', H', I', rz, qz⟩ := z
  exact SlX.cmpback rz ⟨z', H', I', rz, qz⟩
/-- x op y of two instances of the class at C, by its own def -/
theorem op_binOwn {op : Operator} (hs : PySem.W.findIn X.K (.ref C) (PySem.dunder op.info.2) = some (some (.ref g))) (hc : PySem.W.selfFirst X.K C = true) (hf : PySem.W.isFn X.K (.ref g) = true) (F : FnR X.prog X.w X.K X.mg X.base CX n g sp)
    (hr : Room n X.A) (hx : Passes CX X E) : OpR X (binaryOp op) (rOwnI C sp E) := by
  intro pins s σ H x y v u Q I rx ry h
  obtain ⟨a, dx, vs, b, dy, ws, rfl, rfl, ha, hb, q⟩ := h
  cases (show v = Value.ref a from rx)
  cases (show u = Value.ref b from ry)
  obtain ⟨mA, J, _⟩ := ins_get I.hok ha
  obtain ⟨mB, J', _⟩ := ins_get I.hok hb
  obtain ⟨od, J, _⟩ := J.look
  obtain ⟨od', J', _⟩ := J'.look
  obtain ⟨m, hF⟩ := I.fr
  refine PySem.W.binop_K (op := op) hF I.ok.mod.kin J J'.type hc hs hf ?_
  refine wpAny_mono (wpAny_call (run_fnR (us := [.ref a, .ref b]) (vs := [.ref a, .ref b]) F hr hx I (.cons rfl (.cons rfl .nil)) q)) (fun w s' z => ?_) fun _ _ x => x
  obtain ⟨z', H', I', rz, qz⟩ := z
  exact SlX.cmpback rz ⟨z', H', I', rz, qz⟩
end
end Rw

set_option Elab.async false
set_option linter.all false
set_option maxRecDepth 100000
set_option maxHeartbeats 4000000
namespace K58
open PySem PySem.Spec PyProof.Rows L2 Rw
abbrev sEq : Stmt := clsM (top 10) 1
abbrev NEq : List Str := ["self", "other"]
/-- an onlooker stands at x -/
structure Onl (cL : Addr) (H : Hp) (x : Addr) (z : Str) (ns : List Nat) : Prop where
  ex : ∃ dx p, H x = some (.ins cL dx [("letters", .str z), ("classes", .ref p)]) ∧ H p = some (.tup (nums ns))
def spEqO (cL : Addr) : Sp := fun vs H Q _ => ∃ (x y : Addr) (a b : Str) (ns ms : List Nat), vs = [.ref x, .ref y] ∧ Onl cL H x a ns ∧ Onl cL H y b ms ∧ PyData.strOk a = true ∧ PyData.strOk b = true ∧ ∀ H', Same H H' → Q (.bl (decide (a = b ∧ ns = ms))) H'
theorem dpNums {K : PySem.W.Frag} {H : Hp} : ∀ ns : List Nat, DpAll K H (nums ns) (ns.map fun (n : Nat) => .int (n : Int))
  | [] => .nil
  | n :: r => .cons (.int _) (dpNums r)
theorem layNums : ∀ ns : List Nat, PyData.canLayAll0 (ns.map fun (n : Nat) => PyData.int (n : Int)) = true
  | [] => by simp only [List.map_nil, PyData.canLayAll0]
  | n :: r => by simp only [List.map_cons, PyData.canLayAll0, PyData.canLay0, layNums r, Bool.and_self]
theorem deepNums : ∀ ns : List Nat, PyData.depthAll (ns.map fun (n : Nat) => PyData.int (n : Int)) ≤ 1
  | [] => by simp only [List.map_nil, PyData.depthAll]; decide
  | n :: r => by
    simp only [List.map_cons, PyData.depthAll]
    exact Nat.max_le.mpr ⟨by simp [PyData.depth], deepNums r⟩
theorem shOnl {a : Str} (h : PyData.strOk a = true) (ns : List Nat) : SeqAt.shaped (.tuple [.str a, .tuple (ns.map fun (n : Nat) => .int (n : Int))]) = true := by
  have d := deepNums ns
  unfold SeqAt.shaped
  simp only [PyData.canLay0, PyData.canLayAll0, PyData.depth, PyData.depthAll, layNums ns, h, Bool.and_self, Bool.true_and]
  exact decide_eq_true (by omega)
theorem eqvNums : ∀ ns ms : List Nat, PyData.eqvAll (ns.map fun (n : Nat) => PyData.int (n : Int)) (ms.map fun (n : Nat) => PyData.int (n : Int)) = decide (ns = ms)
  | [], [] => by simp [PyData.eqvAll]
  | [], y :: ys => by simp [PyData.eqvAll]
  | x :: xs, [] => by simp [PyData.eqvAll]
  | x :: xs, y :: ys => by
    rw [List.map_cons, List.map_cons, PyData.eqvAll, eqvNums xs ys]
    simp only [PyData.eqv]
    by_cases e : x = y <;> simp [e, Int.natCast_inj]
section
variable {P : Program} {w : World} {K : PySem.W.Frag} {mg : Str → Option Value} {base : Heap} {cB cO cL : Addr}
theorem scEq : FnScope NEq ["self", "other"] (defScope sEq) := ⟨rfl, rfl, rfl, by decide +kernel, rfl, by decide +kernel, by decide +kernel⟩
theorem ok_eqO {f : Addr} {fd : FuncData} (F : FunD K "__eq__" "Onlooker.__eq__" (defArgs sEq) (defBody sEq) (defScope sEq) [] [] f fd) (T : Tx P K mg cB cO cL) (mL : mg "Onlooker" = some (.ref cL)) (SI : SlX.SIsi K cL) (kO : PySem.W.kitOne K (.ref cL) (.ref cL) = some true) :
    FnOk P w K mg base CX0 1 f fd ["self", "other"] (spEqO cL) := by
  refine F.ok scEq (fun vs H Q E h => ?_) (fun cdv A outer s H vs Q E hr h => ?_)
  · obtain ⟨_, _, _, _, _, _, rfl, _⟩ := h
    rfl
  obtain ⟨x, y, a, b, ns, ms, rfl, ⟨dx, p, hx, hp⟩, ⟨dy, q, hy, hq'⟩, oa, ob, hq⟩ := h
  refine ⟨_, PSs.nox (pss_one (ps_ret (pe_and (pe_callB (call_isiK (K := K) rfl) (by rfl) T.isin PyProof.Rows.boot_isinstance (pa_cons (pv 1) (pa_cons (pe_glob rfl mL (show RelV (.ref cL) _ from rfl)) pa_nil))) (pe_one (pe_cmpR (op_eqD hr.units) (pe_tup (pa_cons (pe_fld (pv 0) rfl) (pa_cons (pe_fld (pv 0) rfl) pa_nil))) (pe_tup (pa_cons (pe_fld (pv 1) rfl) (pa_cons (pe_fld (pv 1) rfl) pa_nil))) (nomark _)))))), ?_⟩
  refine ⟨_, rfl, .ref y, .ref cL, _, _, _, rfl, .own cL, TyX.base (.ins hy T.cl SI.ca SI.cn SI.ct SI.cm), kO, ?_⟩
  refine ⟨true, rfl, iteT ?_⟩
  refine ⟨_, rfl, x, cL, dx, _, _, rfl, hx, T.cl, T.n1, rfl, _, rfl, x, cL, dx, _, _, rfl, hx, T.cl, T.n2, rfl, Nat.le_of_lt (small1000 (by show 2 ≤ 1000; decide)), fun t1 ht1 => ?_⟩
  have s1 := same_new (o := .tup [V.str a, .ref p]) ht1
  refine ⟨_, rfl, y, cL, dy, _, _, rfl, s1 _ _ hy, T.cl, T.n1, rfl, _, rfl, y, cL, dy, _, _, rfl, s1 _ _ hy, T.cl, T.n2, rfl, Nat.le_of_lt (small1000 (by show 2 ≤ 1000; decide)), fun t2 ht2 => ?_⟩
  have s2 := same_new (o := .tup [V.str b, .ref q]) ht2
  have s12 := s1.trans s2
  refine ⟨.tuple [.str a, .tuple (ns.map fun (n : Nat) => .int (n : Int))], .tuple [.str b, .tuple (ms.map fun (n : Nat) => .int (n : Int))], .tup (SqT.of (s2 _ _ upd_same)) (.cons (.str a) (.cons (.tup (SqT.of (s12 _ _ hp)) (dpNums ns)) .nil)),
    .tup (SqT.of upd_same) (.cons (.str b) (.cons (.tup (SqT.of (s12 _ _ hq')) (dpNums ms)) .nil)), shOnl oa ns, shOnl ob ms, ?_⟩
  have e : PyData.eqv (.tuple [.str a, .tuple (ns.map fun (n : Nat) => .int (n : Int))]) (.tuple [.str b, .tuple (ms.map fun (n : Nat) => .int (n : Int))]) = decide (a = b ∧ ns = ms) := by
    simp only [PyData.eqv, PyData.eqvAll, eqvNums]
    by_cases e : a = b <;> simp [e]
  rw [e]
  exact hq _ s12
/-- beside plain data -/
def spEqB : Sp := fun vs H Q _ => ∃ (x : Addr) (y : V) (n : String), vs = [.ref x, y] ∧ Beside H y n ∧ Q (.bl false) H
theorem ok_eqB {f : Addr} {fd : FuncData} (F : FunD K "__eq__" "Onlooker.__eq__" (defArgs sEq) (defBody sEq) (defScope sEq) [] [] f fd) (T : Tx P K mg cB cO cL) (mL : mg "Onlooker" = some (.ref cL))
    (kD : ∀ n ∈ ["NoneType", "str", "list", "tuple"], PySem.W.kitOne K (.type n) (.ref cL) = some false) : FnOk P w K mg base CX0 1 f fd ["self", "other"] spEqB := by
  refine F.ok scEq (fun vs H Q E h => ?_) (fun cdv A outer s H vs Q E hr h => ?_)
  · obtain ⟨_, _, _, rfl, _⟩ := h
    rfl
  obtain ⟨x, y, n, rfl, hb, hq⟩ := h
  refine ⟨_, PSs.nox (pss_one (ps_ret (pe_and (pe_callB (call_isiK (K := K) rfl) (by rfl) T.isin PyProof.Rows.boot_isinstance (pa_cons (pv 1) (pa_cons (pe_glob rfl mL (show RelV (.ref cL) _ from rfl)) pa_nil))) (pe_one (pe_cmpR (op_eqD hr.units) (pe_tup (pa_cons (pe_fld (pv 0) rfl) (pa_cons (pe_fld (pv 0) rfl) pa_nil))) (pe_tup (pa_cons (pe_fld (pv 1) rfl) (pa_cons (pe_fld (pv 1) rfl) pa_nil))) (nomark _)))))), ?_⟩
  have ht : TyX K H y (.type n) := by
    cases hb with
    | non => exact .base .non
    | str x => exact .base (.str x)
    | lst h => exact .base (.lst h)
    | tup h => exact .base (.tup h)
  have hn : n ∈ ["NoneType", "str", "list", "tuple"] := by cases hb <;> simp
  exact ⟨_, rfl, y, .ref cL, _, _, _, rfl, .own cL, ht, kD n hn, false, rfl, iteF hq⟩
end
end K58

set_option Elab.async false
set_option linter.all false
set_option maxRecDepth 100000
set_option maxHeartbeats 4000000
namespace K58
open PySem PySem.Spec PyProof.Rows L2 Rw
abbrev sR : Stmt := top 24
abbrev NR : List Str := ["letters_now", "classes_now", "wrong", "was", "due", "told"]
def markI (K : PySem.W.Frag) : Mark K Int where
  e := .int
  R := fun _ v m => v = .int m
  mono := fun _ h => h
  dp := fun h => h ▸ .int _
  eqv := fun a b => by
    simp only [PyData.eqv]
    by_cases h : a = b
    · simp [h]
    · simp [h]
  lay := fun _ => by simp only [PyData.canLay0]
  deep := fun _ => by simp only [PyData.depth]; decide
theorem paired_ints {H : Hp} {K : PySem.W.Frag} : ∀ ms : List Int, Paired ((markI K).R H) (ms.map .int) ms
  | [] => .nil
  | m :: r => .cons rfl (paired_ints r)
theorem nat_shown : ((List.range 1001).all fun n => ((PyData.int (n : Int)).showable && decide ((PyData.int (n : Int)).shown.length ≤ 4) && decide ((PyData.int (n : Int)).depth ≤ 0))) = true := by kernel_rfl
theorem show_nat {n : Nat} (h : n ≤ 1000) : Show 0 4 (.int (n : Int)) := by
  have := List.all_eq_true.mp nat_shown n (List.mem_range.mpr (by omega))
  simp only [Bool.and_eq_true, decide_eq_true_eq] at this
  exact ⟨this.1.1, this.1.2, this.2⟩
def numD (ns : List Nat) : PyData := .tuple (ns.map fun (n : Nat) => .int (n : Int))
theorem norm_le {ms : List Int} (hl : ms.length ≤ 1000) : ∀ n ∈ norm ms, n ≤ 1000 := by
  intro n hn
  obtain ⟨m, hm, rfl⟩ := List.mem_map.mp hn
  have h := ix_at ((mem_firsts ms m).mpr hm)
  have l := (List.getElem?_eq_some_iff.mp h.1).1
  exact Nat.le_trans (Nat.le_of_lt l) (Nat.le_trans (firsts_len ms) hl)
theorem show_numD {ms : List Int} (hl : ms.length ≤ 1000) : Show 1 6003 (numD (norm ms)) := by
  have h := Show.tuple (ds := (norm ms).map fun (n : Nat) => PyData.int (n : Int)) (n := 0) (B := 4) fun d hd => by
    obtain ⟨n, hn, rfl⟩ := List.mem_map.mp hd
    exact show_nat (norm_le hl n hn)
  refine h.mono (Nat.le_refl _) ?_
  rw [List.length_map]
  have : (norm ms).length ≤ 1000 := by unfold norm; rw [List.length_map]; exact hl
  omega
theorem dq_nums {H : Hp} {ok : Addr → Prop} : ∀ ns : List Nat, DqAll H ok (nums ns) (ns.map fun (n : Nat) => PyData.int (n : Int))
  | [] => .nil
  | n :: r => .cons (.int _) (dq_nums r)
theorem Dq.any {H : Hp} {ok ok' : Addr → Prop} {v : V} {d : PyData} (h : Dq H ok v d) (f : ∀ a, ok a → ok' a) : Dq H ok' v d := h.mono fun a o k z => ⟨z, f a k⟩
/-- a list of two -/
theorem dq_two {H : Hp} {l : Addr} {v u : V} {d e : PyData} (hl : H l = some (.lst [v, u])) (h1 : Dq H (fun _ => True) v d) (h2 : Dq H (fun _ => True) u e) : Dq H (fun _ => True) (.ref l) (.list [d, e]) := .lst trivial hl (.cons h1 (.cons h2 .nil))
def spR : Sp := fun vs H Q _ => ∃ (v u : V) (ok : Addr → Prop) (dl dc : PyData), vs = [v, u] ∧ Dq H ok v dl ∧ Dq H ok u dc ∧ (∀ z, dl = .str z → z.length ≤ 60) ∧ (∀ ds, dc = .tuple ds → ds.length ≤ 1000) ∧ Show 20 100000 dl ∧ Show 20 100000 dc ∧ ∀ H', Same H H' → Q (.bl true) H'
section
variable {P : Program} {w : World} {K : PySem.W.Frag} {mg : Str → Option Value} {base : Heap}
/-- the reprs at the end -/
theorem tail_R {F : Ends} {H : Hp} {v u wr : V} {dl dc D1 : PyData} {ld lt : Addr} {v1 v2 : V} (hv : Dq H (fun _ => True) v dl) (hu : Dq H (fun _ => True) u dc) (shw : Show 21 200006 (.list [dl, dc])) (sh1 : Show 22 300000 D1)
    (hd : Dq H (fun _ => True) (.ref ld) D1) (h1 : Dq H (fun _ => True) v1 D1) (h2 : Dq H (fun _ => True) v2 D1) (hl : H lt = some (.lst [v1, v2])) (hq : ∀ H', Same H H' → F.rt (.bl true) H') :
    tRet (tAndV (tOp rEq (tCB rRepr (tCons (tVar 5) tNil)) (tCB rRepr (tCons (tLst (tCons (tVar 4) (tCons (tVar 4) tNil))) tNil))) (tOp rEq (tCB rRepr (tCons (tLst (tCons (tVar 0) (tCons (tVar 1) tNil))) tNil)) (tVar 3))) F
      [some v, some u, some wr, some (.str (PyData.list [dl, dc]).shown), some (.ref ld), some (.ref lt)] H := by
  have shT : Show 23 600006 (.list [D1, D1]) := (Show.list (n := 22) (B := 300000) fun d hd => by
    rcases List.mem_cons.mp hd with e | e
    · rw [e]; exact sh1
    · rw [List.mem_singleton.mp e]; exact sh1).mono (Nat.le_refl _) (by show 2 * _ + 2 ≤ _; omega)
  have b1 : 600006 ≤ sizeLine := by decide
  have b2 : 200006 ≤ sizeLine := by decide
  have tT := Nat.le_trans shT.len b1
  have tW := Nat.le_trans shw.len b2
  refine ⟨_, rfl, _, .ref lt, .list [D1, D1], rfl, dq_two hl h1 h2, shT.ok, tT, Nat.le_trans shT.deep (by decide), ?_⟩
  refine ⟨_, rfl, _, rfl, by show 2 ≤ sizeLine; decide, fun q fq => ?_⟩
  have s1 := same_new (o := .lst [.ref ld, .ref ld]) fq
  refine ⟨_, .ref q, .list [D1, D1], rfl, dq_two upd_same (Dq.to hd s1) (Dq.to hd s1), shT.ok, tT, Nat.le_trans shT.deep (by decide), rfl, ?_⟩
  rw [decide_eq_true rfl]
  refine ⟨_, rfl, iteT ?_⟩
  refine ⟨_, rfl, _, rfl, by show 2 ≤ sizeLine; decide, fun r fr => ?_⟩
  have s2 := s1.trans (same_new (o := .lst [v, u]) fr)
  refine ⟨_, .ref r, .list [dl, dc], rfl, dq_two upd_same (Dq.to hv s2) (Dq.to hu s2), shw.ok, tW, Nat.le_trans shw.deep (by decide), _, rfl, rfl, ?_⟩
  rw [decide_eq_true rfl]
  exact hq _ s2
theorem scR : FnScope NR ["letters_now", "classes_now"] (defScope sR) := ⟨rfl, rfl, rfl, by decide +kernel, rfl, by decide +kernel, by decide +kernel⟩
theorem ok_R {f fB fN fU : Addr} {fd fdB fdN fdU : FuncData} (F : FunD K "_law_right" "_law_right" (defArgs sR) (defBody sR) (defScope sR) [] [] f fd) (T : Ts K mg) (hsy : ∃ o, K.lookup sysModules = some o)
    (FB : FunD K "_law_bad" "_law_bad" (defArgs sBad) (defBody sBad) (defScope sBad) [] [] fB fdB) (mB : mg "_law_bad" = some (.ref fB)) (GB : FnOk P w K mg base CX0 2 fB fdB ["letters_now", "classes_now"] spBad)
    (FN : FunD K "_law_normal" "_law_normal" (defArgs sN) (defBody sN) (defScope sN) [] [] fN fdN) (mN : mg "_law_normal" = some (.ref fN))
    (FU : FunD K "_law_built" "_law_built" (defArgs sBuilt) (defBody sBuilt) (defScope sBuilt) [] [] fU fdU) (mU : mg "_law_built" = some (.ref fU)) (GU : FnOk P w K mg base CX0 5 fU fdU ["letters_now", "classes_now", "is_named"] spBuilt) :
    FnG P w K mg base CX0 6 f fd ["letters_now", "classes_now"] spR := by
  have GN : FnOk P w K mg base CX0 1 fN fdN ["classes_now"] (spN (markI K)) := ok_N (markI K) FN T
  have bB : Binds K fdB ["letters_now", "classes_now"] [] := FB.bindsN fun _ _ _ _ _ _ us hl => match us, hl with | [_, _], _ => rfl
  have bN : Binds K fdN ["classes_now"] [] := FN.bindsN fun _ _ _ _ _ _ us hl => match us, hl with | [_], _ => rfl
  have bU : Binds K fdU ["letters_now", "classes_now", "is_named"] [] := FU.bindsN fun _ _ _ _ _ _ us hl => match us, hl with | [_, _, _], _ => rfl
  refine fn_okG F scR (fun vs H Q E h => ?_) (fun cdv A outer s H vs Q E hg hr h => ?_)
  · obtain ⟨_, _, _, _, _, rfl, _⟩ := h
    rfl
  obtain ⟨v, u, ok, dl, dc, rfl, hv, hu, hvl, hul, shl, shc, hq⟩ := h
  refine ⟨_, (pss_cons (ps_par (i := 2) (j := 3) (by rfl) scR.nd rfl rfl (by decide) rfl rfl (pa_cons (pe_call GB (hr.mono (by decide)) rfl mB FB.kp bB .nil pass0 (pa_cons (pv 0) (pa_cons (pv 1) pa_nil))) (pa_cons (pe_callB (call_repr hg hr.units hsy) (by rfl) T.repr PyProof.Rows.boot_repr (pa_cons (pe_lst (pa_cons (pv 0) (pa_cons (pv 1) pa_nil))) pa_nil)) pa_nil)) (by rfl))
      (pss_cons (ps_set (i := 4) scR.nd rfl (by first | exact Or.inl rfl | exact Or.inr rfl) (pe_ifExp (pt_cmpR op_notN (pv 2) pe_non (nomark _)) (pe_lst (pa_cons pe_str (pa_cons (pv 2) (pa_cons pe_bl pa_nil)))) (pe_lst (pa_cons (pv 0) (pa_cons (pe_call GN (hr.mono (by decide)) rfl mN FN.kp bN .nil pass0 (pa_cons (pv 1) pa_nil)) pa_nil)))))
      (pss_cons (ps_set (i := 5) scR.nd rfl (by first | exact Or.inl rfl | exact Or.inr rfl) (pe_lst (pa_cons (pe_call GU (hr.mono (by decide)) rfl mU FU.kp bU .nil pass0 (pa_cons (pv 0) (pa_cons (pv 1) (pa_cons pe_bl pa_nil)))) (pa_cons (pe_call GU (hr.mono (by decide)) rfl mU FU.kp bU .nil pass0 (pa_cons (pv 0) (pa_cons (pv 1) (pa_cons pe_bl pa_nil)))) pa_nil))))
      (pss_one (ps_ret (pe_and (pe_cmpR op_eq (pe_callB (call_repr hg hr.units hsy) (by rfl) T.repr PyProof.Rows.boot_repr (pa_cons (pv 5) pa_nil)) (pe_callB (call_repr hg hr.units hsy) (by rfl) T.repr PyProof.Rows.boot_repr (pa_cons (pe_lst (pa_cons (pv 4) (pa_cons (pv 4) pa_nil))) pa_nil)) (nomark _)) (pe_one (pe_cmpR op_eq (pe_callB (call_repr hg hr.units hsy) (by rfl) T.repr PyProof.Rows.boot_repr (pa_cons (pe_lst (pa_cons (pv 0) (pa_cons (pv 1) pa_nil))) pa_nil)) (pv 3) (nomark _))))))))), ?_⟩
  refine ⟨_, rfl, _, rfl, v, u, ok, dl, dc, rfl, hv, hu, hvl, hul, fun H1 s1 => ?_⟩
  have tv : ∀ {H' : Hp}, Same H H' → Dq H' (fun _ => True) v dl := fun s => Dq.any (Dq.to hv s) fun _ _ => trivial
  have tu : ∀ {H' : Hp}, Same H H' → Dq H' (fun _ => True) u dc := fun s => Dq.any (Dq.to hu s) fun _ _ => trivial
  have shw : Show 21 200006 (.list [dl, dc]) := (Show.list (n := 20) (B := 100000) fun d hd => by
    rcases List.mem_cons.mp hd with e | e
    · rw [e]; exact shl
    · rw [List.mem_singleton.mp e]; exact shc).mono (Nat.le_refl _) (by show 2 * _ + 2 ≤ _; omega)
  have big : 200006 ≤ sizeLine := by decide
  refine ⟨_, rfl, _, rfl, by show 2 ≤ sizeLine; decide, fun l0 f0 => ?_⟩
  have s2 := s1.trans (same_new (o := .lst [v, u]) f0)
  refine ⟨_, .ref l0, .list [dl, dc], rfl, dq_two upd_same (tv s2) (tu s2), shw.ok, Nat.le_trans shw.len big, Nat.le_trans shw.deep (by decide), _, _, rfl, ?_⟩
  generalize eH : upd H1 l0 (.lst [v, u]) = H2 at s2
  have hv2 := Dq.to hv s2
  have hu2 := Dq.to hu s2
  have shB : ∀ s : Str, s = "letters" ∨ s = "classes" → Show 22 300000 (.list [.str "bad", .str s, .bool true]) := by
    rintro s (rfl | rfl)
    · exact ⟨by decide +kernel, Nat.le_trans (by decide +kernel : _ ≤ 100) (by decide), by decide +kernel⟩
    · exact ⟨by decide +kernel, Nat.le_trans (by decide +kernel : _ ≤ 100) (by decide), by decide +kernel⟩
  have bad : ∀ s : Str, badV dl dc = .str s → (s = "letters" ∨ s = "classes") := fun s e => by
    unfold badV at e
    split at e
    · split at e
      · cases e
      · cases e
        exact .inr rfl
    · cases e
      exact .inl rfl
  cases eb : badV dl dc with
  | str s =>
    have sb := shB s (bad s eb)
    refine ⟨_, rfl, rfl, _, rfl, iteT ?_⟩
    refine ⟨_, rfl, by show 3 ≤ sizeLine; decide, fun ld fld => ?_⟩
    have s3 := s2.trans (same_new (o := .lst [.str "bad", .str s, .bl true]) fld)
    have n3 := same_new (o := .lst [.str "bad", .str s, .bl true]) fld
    have dB : ∀ {l : Addr} {H' : Hp}, H' l = some (.lst [.str "bad", .str s, .bl true]) → Dq H' (fun _ => True) (.ref l) (.list [.str "bad", .str s, .bool true]) := fun z => .lst trivial z (.cons (.str _) (.cons (.str _) (.cons (.bl _) .nil)))
    refine ⟨_, rfl, _, rfl, v, u, false, ok, dl, dc, rfl, Dq.to hv s3, Dq.to hu s3, hvl, hul, fun ms e1 e2 e3 => absurd eb (by unfold badV; rw [e1, e3]; simp), fun s' l1 H4 eb' s4 g4 => ?_⟩
    cases eb.symm.trans eb'
    have s34 := s3.trans s4
    refine ⟨_, rfl, _, rfl, v, u, true, ok, dl, dc, rfl, Dq.to hv s34, Dq.to hu s34, hvl, hul, fun ms e1 e2 e3 => absurd eb (by unfold badV; rw [e1, e3]; simp), fun s' l2 H5 eb' s5 g5 => ?_⟩
    cases eb.symm.trans eb'
    have s35 := s34.trans s5
    refine ⟨by show 2 ≤ sizeLine; decide, fun lt flt => ?_⟩
    have s6 := same_new (o := .lst [.ref l1, .ref l2]) flt
    have s36 := s35.trans s6
    exact tail_R (tv s36) (tu s36) shw sb (dB (s6 _ _ (s5 _ _ (s4 _ _ upd_same)))) (dB (s6 _ _ (s5 _ _ g4))) (dB (s6 _ _ g5)) upd_same fun H' s7 => hq H' (s36.trans s7)
  | non =>
    have e1 : heardD dl = true := by
      unfold badV at eb
      split at eb
      · assumption
      · cases eb
    have e3 : classesD dc = true := by
      unfold badV at eb
      rw [if_pos e1] at eb
      split at eb
      · assumption
      · cases eb
    obtain ⟨ms, rfl⟩ : ∃ ms : List Int, dc = .tuple (ms.map .int) := by
      cases dc with
      | tuple ds =>
        have e4 : (!ds.isEmpty && ds.all natD) = true := e3
        rw [Bool.and_eq_true] at e4
        obtain ⟨ms, rfl⟩ := nat_ints e4.2
        exact ⟨ms, rfl⟩
      | _ => cases e3
    have lms : ms.length ≤ 1000 := by
      have := hul _ rfl
      rwa [List.length_map] at this
    have inj : ∀ ms' : List Int, PyData.tuple (ms.map .int) = .tuple (ms'.map .int) → ms' = ms := fun ms' e => by
      have e' : ms.map PyData.int = ms'.map PyData.int := PyData.tuple.inj e
      exact (List.map_inj_right (fun a b h => PyData.int.inj h)).mp e'.symm
    have sN := show_numD lms
    have sg : Show 22 300000 (.list [dl, numD (norm ms)]) := (Show.list (n := 20) (B := 100000) fun d hd => by
      rcases List.mem_cons.mp hd with e | e
      · rw [e]; exact shl
      · rw [List.mem_singleton.mp e]; exact sN.mono (by decide) (by decide)).mono (by decide) (by show 2 * _ + 2 ≤ _; omega)
    have dG : ∀ {l p : Addr} {H' : Hp}, Same H H' → H' l = some (.lst [v, .ref p]) → H' p = some (.tup (nums (norm ms))) → Dq H' (fun _ => True) (.ref l) (.list [dl, numD (norm ms)]) := fun s z y => dq_two z (tv s) (.tup trivial y (dq_nums _))
    refine ⟨_, rfl, rfl, _, rfl, iteF ?_⟩
    cases hu with
    | @tup a xs _ ha hxa hxs =>
    have ex := dq_ints hxs
    subst ex
    refine ⟨_, rfl, _, rfl, a, _, ms, rfl, s2 _ _ hxa, paired_ints ms, lms, fun p0 H3 s3 fp0 gp0 => ?_⟩
    have s23 := s2.trans s3
    refine ⟨by show 2 ≤ sizeLine; decide, fun ld fld => ?_⟩
    have n4 := same_new (o := .lst [v, .ref p0]) fld
    have s24 := s23.trans n4
    have hu0 : Dq H ok (.ref a) (.tuple (ms.map .int)) := .tup ha hxa hxs
    refine ⟨_, rfl, _, rfl, v, .ref a, false, ok, dl, _, rfl, Dq.to hv s24, Dq.to hu0 s24, hvl, hul, fun ms' _ e2 _ l1 p1 H5 s5 gp1 gl1 => ?_, fun s' _ _ eb' => absurd (eb.symm.trans eb') (by simp)⟩
    cases inj ms' e2
    have s25 := s24.trans s5
    refine ⟨_, rfl, _, rfl, v, .ref a, true, ok, dl, _, rfl, Dq.to hv s25, Dq.to hu0 s25, hvl, hul, fun ms' _ e2 _ l2 p2 H6 s6 gp2 gl2 => ?_, fun s' _ _ eb' => absurd (eb.symm.trans eb') (by simp)⟩
    cases inj ms' e2
    have s26 := s25.trans s6
    refine ⟨by show 2 ≤ sizeLine; decide, fun lt flt => ?_⟩
    have n7 := same_new (o := .lst [.ref l1, .ref l2]) flt
    have s27 := s26.trans n7
    exact tail_R (tv s27) (tu s27) shw sg (dG s27 (n7 _ _ (s6 _ _ (s5 _ _ upd_same))) (n7 _ _ (s6 _ _ (s5 _ _ (n4 _ _ gp0))))) (dG s27 (n7 _ _ (s6 _ _ gl1)) (n7 _ _ (s6 _ _ gp1))) (dG s27 (n7 _ _ gl2) (n7 _ _ gp2)) upd_same fun H' s8 => hq H' (s27.trans s8)
  | _ =>
    exfalso
    unfold badV at eb
    split at eb
    · split at eb <;> cases eb
    · cases eb
end
end K58

set_option Elab.async false
set_option linter.all false
set_option maxRecDepth 100000
set_option maxHeartbeats 4000000
/-! plain: numbers by first meeting under a renaming; the texts of the signs of two texts -/
namespace Rw
open PySem PySem.Spec PyProof.Rows L2 TL
section
variable {α β : Type} [DecidableEq α] [DecidableEq β]
theorem foldl_meet_map {f : α → β} : ∀ (l acc : List α), (∀ x ∈ acc ++ l, ∀ y ∈ acc ++ l, f x = f y → x = y) → (l.map f).foldl meet (acc.map f) = (l.foldl meet acc).map f
  | [], acc, _ => rfl
  | m :: r, acc, h => by
    have e : meet (acc.map f) (f m) = (meet acc m).map f := by
      unfold meet
      by_cases z : m ∈ acc
      · rw [if_pos z, if_pos (List.mem_map.mpr ⟨m, z, rfl⟩)]
      · rw [if_neg z, if_neg, List.map_append]
        · rfl
        · intro q
          obtain ⟨x, hx, e⟩ := List.mem_map.mp q
          have := h x (List.mem_append.mpr (.inl hx)) m (List.mem_append.mpr (.inr List.mem_cons_self)) e
          exact z (this ▸ hx)
    rw [List.map_cons, List.foldl_cons, List.foldl_cons, e]
    refine foldl_meet_map r (meet acc m) fun x hx y hy => h x ?_ y ?_
    · rcases List.mem_append.mp hx with q | q
      · unfold meet at q
        split at q
        · exact List.mem_append.mpr (.inl q)
        · rcases List.mem_append.mp q with q | q
          · exact List.mem_append.mpr (.inl q)
          · rw [List.mem_singleton.mp q]; exact List.mem_append.mpr (.inr List.mem_cons_self)
      · exact List.mem_append.mpr (.inr (List.mem_cons_of_mem _ q))
    · rcases List.mem_append.mp hy with q | q
      · unfold meet at q
        split at q
        · exact List.mem_append.mpr (.inl q)
        · rcases List.mem_append.mp q with q | q
          · exact List.mem_append.mpr (.inl q)
          · rw [List.mem_singleton.mp q]; exact List.mem_append.mpr (.inr List.mem_cons_self)
      · exact List.mem_append.mpr (.inr (List.mem_cons_of_mem _ q))
theorem firsts_map {f : α → β} {l : List α} (h : ∀ x ∈ l, ∀ y ∈ l, f x = f y → x = y) : firsts (l.map f) = (firsts l).map f := foldl_meet_map l [] (by simpa using h)
theorem ix_map {f : α → β} : ∀ {l : List α} {m : α}, (∀ x ∈ l, f x = f m → x = m) → ix (l.map f) (f m) = ix l m
  | [], m, _ => rfl
  | x :: r, m, h => by
    by_cases e : x = m
    · subst e
      rw [List.map_cons, ix_same, ix_same]
    · have e' : ¬ f x = f m := fun z => e (h x List.mem_cons_self z)
      rw [List.map_cons, ix_other _ e', ix_other _ e, ix_map fun y hy => h y (List.mem_cons_of_mem _ hy)]
theorem norm_map {f : α → β} {l : List α} (h : ∀ x ∈ l, ∀ y ∈ l, f x = f y → x = y) : norm (l.map f) = norm l := by
  unfold norm
  rw [firsts_map h, List.map_map]
  refine List.map_congr_left fun m hm => ?_
  exact ix_map fun x hx e => h x ((mem_firsts l x).mp hx) m hm e
theorem ix_inj {l : List α} {x y : α} (hx : x ∈ l) (hy : y ∈ l) (e : ix l x = ix l y) : x = y := by
  have h1 := (ix_at hx).1
  have h2 := (ix_at hy).1
  rw [e] at h1
  rw [h1] at h2
  exact Option.some.inj h2
/-- numbered again: the same -/
theorem norm_norm (l : List α) : norm ((norm l).map fun n : Nat => (n : Int)) = norm l := by
  have e0 : (norm l).map (fun n : Nat => (n : Int)) = l.map fun m => ((ix (firsts l) m : Nat) : Int) := by
    unfold norm
    rw [List.map_map]
    rfl
  rw [e0]
  refine norm_map fun x hx y hy e => ?_
  exact ix_inj ((mem_firsts l x).mpr hx) ((mem_firsts l y).mpr hy) (Int.ofNat.inj e)
theorem zip_map' {γ δ : Type} (f : α → γ) (g : β → δ) : ∀ (a : List α) (b : List β), (a.map f).zip (b.map g) = (a.zip b).map fun p => (f p.1, g p.2)
  | [], b => by simp
  | a :: r, [] => by simp
  | a :: r, b :: s => by simp [zip_map' f g r s]
/-- pairs of numbers are numbered as the pairs of what they number -/
theorem norm_zip (a : List α) (b : List β) : norm (((norm a).map fun n : Nat => (n : Int)).zip ((norm b).map fun n : Nat => (n : Int))) = norm (a.zip b) := by
  have e1 : (norm a).map (fun n : Nat => (n : Int)) = a.map fun m => ((ix (firsts a) m : Nat) : Int) := by
    unfold norm
    rw [List.map_map]
    rfl
  have e2 : (norm b).map (fun n : Nat => (n : Int)) = b.map fun m => ((ix (firsts b) m : Nat) : Int) := by
    unfold norm
    rw [List.map_map]
    rfl
  rw [e1, e2, zip_map']
  clear e1 e2
  refine norm_map fun x hx y hy e => ?_
  obtain ⟨x1, x2⟩ := x
  obtain ⟨y1, y2⟩ := y
  simp only [Prod.mk.injEq, Int.natCast_inj] at e
  obtain ⟨e1, e2⟩ := e
  have hx' := List.of_mem_zip hx
  have hy' := List.of_mem_zip hy
  rw [ix_inj ((mem_firsts a x1).mpr hx'.1) ((mem_firsts a y1).mpr hy'.1) e1, ix_inj ((mem_firsts b x2).mpr hx'.2) ((mem_firsts b y2).mpr hy'.2) e2]
theorem norm_len (l : List α) : (norm l).length = l.length := by unfold norm; rw [List.length_map]
end
/-- z is the text of the rising signs of a and b -/
def Pool (a b z : Str) : Prop := ∃ ys : List Str, ys.Pairwise ltS ∧ (∀ k, k ∈ ys ↔ k ∈ signs a ∨ k ∈ signs b) ∧ z = Txt.join "" ys
theorem Pool.uniq {a b z z' : Str} (h : Pool a b z) (h' : Pool a b z') : z = z' := by
  obtain ⟨ys, p, m, rfl⟩ := h
  obtain ⟨zs, q, n, rfl⟩ := h'
  rw [asc_eq p q fun k => (m k).trans (n k).symm]
theorem signs_app (a b : Str) : signs (a ++ b) = signs a ++ signs b := by
  have e : (a ++ b).cps.toList = a.cps.toList ++ b.cps.toList := by
    show (a.cps ++ b.cps).toList = _
    rw [Array.toList_append]
  unfold signs
  rw [e, List.map_append]
theorem joinL_nil : ∀ l : List (List Nat), joinL [] l = l.flatten
  | [] => rfl
  | [p] => by simp [joinL]
  | p :: q :: r => by
    have := joinL_nil (q :: r)
    simp [joinL, this]
theorem tl_eq (x : Str) : tl x = x.cps.toList := rfl
theorem signs_join : ∀ {ys : List Str}, (∀ y ∈ ys, ∃ n : Nat, y = ⟨#[n]⟩) → signs (Txt.join "" ys) = ys := by
  intro ys h
  have e : (Txt.join "" ys).cps.toList = (ys.map tl).flatten := by
    rw [← tl_eq, join_eq, tl_join]
    exact joinL_nil _
  unfold signs
  rw [e]
  clear e
  induction ys with
  | nil => rfl
  | cons y r ih =>
    obtain ⟨n, rfl⟩ := h _ List.mem_cons_self
    rw [List.map_cons, List.flatten_cons, List.map_append, ih fun z hz => h z (List.mem_cons_of_mem _ hz)]
    rfl
theorem sign_one {a k : Str} (h : k ∈ signs a) : ∃ n : Nat, k = ⟨#[n]⟩ := by
  obtain ⟨n, _, rfl⟩ := List.mem_map.mp h
  exact ⟨n, rfl⟩
theorem Pool.signs {a b z : Str} (h : Pool a b z) : (PyProof.Rows.signs z).Pairwise ltS ∧ ∀ k, k ∈ PyProof.Rows.signs z ↔ k ∈ PyProof.Rows.signs a ∨ k ∈ PyProof.Rows.signs b := by
  obtain ⟨ys, p, m, rfl⟩ := h
  rw [signs_join fun y hy => ((m y).mp hy).elim sign_one sign_one]
  exact ⟨p, m⟩
theorem Pool.heard {a b z : Str} (h : Pool a b z) (ha : heardT a = true) (hb : heardT b = true) : heardT z = true := by
  obtain ⟨p, m⟩ := h.signs
  unfold heardT ascT at *
  rw [Bool.and_eq_true, List.all_eq_true] at *
  refine ⟨fun k hk => ((m k).mp hk).elim (ha.1 k) (hb.1 k), decide_eq_true p⟩
end Rw

set_option Elab.async false
set_option linter.all false
set_option maxRecDepth 100000
set_option maxHeartbeats 4000000
/-! zip of two lists or two tuples whose pairs are kept: list(zip(a, b)), [p for p in zip(a, b)] -/
namespace Rw
open PySem PySem.Spec PyProof.Rows L2 RZ
def IsItB (k : Bool) (h : Heap) (it l : Addr) (i : Nat) : Prop := match k with
  | true => h.IsTupleIter it l i
  | false => h.IsListIter it l i
def IsSeqB (k : Bool) (h : Heap) (l : Addr) (xs : Array Value) : Prop := match k with
  | true => h.IsTuple l xs
  | false => h.IsList l xs
theorem IsItB.extBut {k : Bool} {h h' : Heap} {it l x : Addr} {i : Nat} (z : IsItB k h it l i) (e : Heap.ExtBut x h h') (n : it ≠ x) : IsItB k h' it l i := by
  cases k
  · exact Heap.IsListIter.extBut (show h.IsListIter it l i from z) e n
  · exact Heap.IsTupleIter.extBut (show h.IsTupleIter it l i from z) e n
theorem IsSeqB.extBut {k : Bool} {h h' : Heap} {l x : Addr} {xs : Array Value} (z : IsSeqB k h l xs) (e : Heap.ExtBut x h h') (n : l ≠ x) : IsSeqB k h' l xs := by
  cases k
  · exact Heap.IsList.extBut (show h.IsList l xs from z) e n
  · exact Heap.IsTuple.extBut (show h.IsTuple l xs from z) e n
theorem IsItB.at {k : Bool} {h h' : Heap} {it l : Addr} {i : Nat} (z : IsItB k h it l i) (e : ∀ o, h.get? it = some o → h'.get? it = some o) : IsItB k h' it l i := by
  cases k
  · exact Heap.IsListIter.at (show h.IsListIter it l i from z) e
  · exact Heap.IsTupleIter.at (show h.IsTupleIter it l i from z) e
theorem IsItB.there {k : Bool} {h : Heap} {it l : Addr} {i : Nat} (z : IsItB k h it l i) : ∃ o, h.get? it = some o ∧ ∀ v, o.data ≠ .cell v := by
  cases k
  · obtain ⟨o, e, _, d⟩ := (show h.IsListIter it l i from z)
    exact ⟨o, e, fun v q => by rw [d] at q; cases q⟩
  · obtain ⟨o, e, _, d⟩ := (show h.IsTupleIter it l i from z)
    exact ⟨o, e, fun v q => by rw [d] at q; cases q⟩
section
variable {prog : Program} {w : World} {A : Around} {E : Value → Shared → Prop} {s : Shared}
theorem nextB_item {k : Bool} {it l : Addr} {i : Nat} {items : Array Value} {x : Value} {Q : Value → Shared → Prop} (hit : IsItB k s.heap it l i) (hl : IsSeqB k s.heap l items) (hx : items[i]? = some x)
    (hQ : ∀ h', IsItB k h' it l (i + 1) → Heap.SameBut it s.heap h' → Q x { s with heap := h' }) : wpAny (model prog w) A (Builtin.SmallTypes.nextOf (.ref it)) Q E s := by
  cases k
  · exact wpAny_nextOf_list_item (show s.heap.IsListIter it l i from hit) (show s.heap.IsList l items from hl) hx hQ
  · exact nextOf_tuple_item (show s.heap.IsTupleIter it l i from hit) (show s.heap.IsTuple l items from hl) hx hQ
theorem nextB_end {k : Bool} {it l : Addr} {i : Nat} {items : Array Value} {Q : Value → Shared → Prop} (hh : A.handled = none) (hit : IsItB k s.heap it l i) (hl : IsSeqB k s.heap l items) (hx : items[i]? = none)
    (hE : ∀ h' e, Heap.ExtBut it s.heap h' → (∃ o, h'.get? e = some o ∧ o.cls = .type "StopIteration") → E (.ref e) { s with heap := h' }) : wpAny (model prog w) A (Builtin.SmallTypes.nextOf (.ref it)) Q E s := by
  cases k
  · exact wpAny_nextOf_list_end hh (show s.heap.IsListIter it l i from hit) (show s.heap.IsList l items from hl) hx hE
  · exact nextOf_tuple_end hh (show s.heap.IsTupleIter it l i from hit) (show s.heap.IsTuple l items from hl) hx hE
/-- a zip, whatever is known of its last tuple -/
abbrev IsZipO (h : Heap) (z TI TO : Addr) (v : Value) (f : Bool) : Prop :=
  h.get? z = some { cls := .type "zip", dict := none, data := .fields #[v, .bool f, .bool false, .ref TI, .ref TO], slots := #[] }
def ZipSt (h : Heap) (z TI TO : Addr) : Prop := ∃ v f, (v = .none ∨ ∃ T : Nat, v = rawInt T) ∧ IsZipO h z TI TO v f
theorem owned_any {z TI TO : Addr} {Q : Bool → Shared → Prop} (hz : ZipSt s.heap z TI TO)
    (h : ∀ b h', ZipSt h' z TI TO → Heap.SameBut z s.heap h' → Q b { s with heap := h' }) : wpAny (model prog w) A (Builtin.SmallTypes.ownedTupleIsFree (.ref z)) Q E s := by
  obtain ⟨v, f, hv, hz⟩ := hz
  unfold Builtin.SmallTypes.ownedTupleIsFree
  rcases hv with rfl | ⟨T, rfl⟩
  · exact wpAny_bind (wpAny_field hz rfl (x := .none) rfl (wpAny_pure (h true s.heap ⟨_, _, .inl rfl, hz⟩ (Heap.SameBut.refl _ _))))
  · refine wpAny_bind (wpAny_field hz rfl (x := rawInt T) rfl ?_)
    show wpAny _ _ (loadIfAlive ((T : Int).toNat) >>= _) _ _ _
    rw [Int.toNat_natCast]
    refine wpAny_bind (m := loadIfAlive T) ?_
    have hl : ∀ {Q' : Option Obj → Shared → Prop}, Q' (s.heap.get? T) s → wpAny (model prog w) A (loadIfAlive T) Q' E s := fun q => fun _ _ _ => q
    refine hl ?_
    cases hT : s.heap.get? T with
    | none =>
      simp only [Option.isNone_none, if_true]
      exact wpAny_pure (h true s.heap ⟨_, _, .inr ⟨T, rfl⟩, hz⟩ (Heap.SameBut.refl _ _))
    | some oT =>
      simp only [Option.isNone_some, Bool.false_eq_true, if_false]
      refine wpAny_bind (wpAny_field hz rfl (x := .bool f) rfl ?_)
      cases f with
      | true =>
        rw [if_neg (show ¬ ((Value.bool true != Value.bool true) = true) from Bool.false_ne_true)]
        exact wpAny_pure (h false s.heap ⟨_, _, .inr ⟨T, rfl⟩, hz⟩ (Heap.SameBut.refl _ _))
      | false =>
        rw [if_pos (show (Value.bool false != Value.bool true) = true from rfl)]
        exact wpAny_bind (wpAny_setField_rec hz (by simp) fun h₁ hz₁ hs₁ => wpAny_pure (h false h₁ ⟨_, _, .inr ⟨T, rfl⟩, hz₁⟩ hs₁))
theorem zipB_item {k1 k2 : Bool} {z TI TO i1 i2 l1 l2 : Addr} {n1 n2 : Nat} {xs ys : Array Value} {x y a b : Value} {Q : Value → Shared → Prop} (D : ZipApart z TI TO i1 i2 l1 l2)
    (hz : ZipSt s.heap z TI TO) (hTI : IsPair s.heap TI (.ref i1) (.ref i2)) (hTO : IsPair s.heap TO a b)
    (h1 : IsItB k1 s.heap i1 l1 n1) (h2 : IsItB k2 s.heap i2 l2 n2) (hl1 : IsSeqB k1 s.heap l1 xs) (hl2 : IsSeqB k2 s.heap l2 ys) (hx : xs[n1]? = some x) (hy : ys[n2]? = some y)
    (hQ : ∀ h', ZipSt h' z TI TO → (∃ a b, IsPair h' TO a b) → IsItB k1 h' i1 l1 (n1 + 1) → IsItB k2 h' i2 l2 (n2 + 1) → IsPair h' s.heap.objs.size x y → h'.objs.size = s.heap.objs.size + 1 →
      (∀ c o, c ≠ z → c ≠ TO → c ≠ i1 → c ≠ i2 → s.heap.get? c = some o → h'.get? c = some o) → Q (.ref s.heap.objs.size) { s with heap := h' }) :
    wpAny (model prog w) A (Builtin.«zip.__next__» ⟨[.ref z], []⟩) (fun fin s' => ∃ v, fin = .done (.ret v) ∧ Q v s') E s := by
  obtain ⟨v0, f0, _, hz0⟩ := id hz
  show wpAny _ _ (field (.ref z) 2 >>= _) _ _ _
  refine wpAny_bind (wpAny_field hz0 rfl (x := .bool false) rfl ?_)
  show wpAny _ _ (field (.ref z) 3 >>= _) _ _ _
  refine wpAny_bind (wpAny_field hz0 rfl (x := .ref TI) rfl ?_)
  refine wpAny_bind (wpAny_seqItems hTI rfl ?_)
  show wpAny _ _ (Builtin.SmallTypes.ownedTupleIsFree (.ref z) >>= _) _ _ _
  refine wpAny_bind (owned_any hz fun fr h₀ hzs hs₀ => ?_)
  cases fr with
  | true =>
    obtain ⟨v0, f0, _, hz⟩ := hzs
    simp only [if_true]
    refine wpAny_bind (wpAny_rule ?_)
    refine wpAny_bind (wpAny_field (s := { s with heap := h₀ }) hz rfl (x := .ref TO) rfl ?_)
    refine wpAny_bind (wpAny_setField_rec (s := { s with heap := h₀ }) hz (by simp) fun h₁ hz₁ hs₁' => ?_)
    replace hz₁ : IsZipO h₁ z TI TO .ellipsis f0 := hz₁
    have hs₁ : Heap.SameBut z s.heap h₁ := Heap.SameBut.trans hs₀ hs₁'
    refine wpAny_bind ?_
    simp only [List.zipIdx_cons, List.zipIdx_nil, List.forIn_cons, List.forIn_nil]
    refine wpAny_bind (wpAny_bind (wpAny_onRaise ?_))
    show wpAny _ _ (Builtin.SmallTypes.nextOf (.ref i1) >>= _) _ _ _
    refine wpAny_bind (nextB_item (h1.extBut hs₁.extBut D.i1z) (hl1.extBut hs₁.extBut D.l1z) hx fun h₂ h1₂ hs₂ => wpAny_pure ?_)
    have hTO₂ : IsPair h₂ TO a b := hs₂.extBut _ _ D.TOi1 (hs₁.extBut _ _ D.TOz hTO)
    refine wpAny_bind (wpAny_seqItems hTO₂ rfl ?_)
    refine wpAny_bind (wpAny_updateSeq_pair hTO₂ fun h₃ hTO₃ hs₃ => ?_)
    replace hTO₃ : IsPair h₃ TO x b := hTO₃
    refine wpAny_bind (wpAny_letGo (wpAny_pure ?_))
    refine wpAny_bind (wpAny_bind (wpAny_onRaise ?_))
    show wpAny _ _ (Builtin.SmallTypes.nextOf (.ref i2) >>= _) _ _ _
    refine wpAny_bind (nextB_item (((h2.extBut hs₁.extBut D.i2z).extBut hs₂.extBut D.i12.symm).extBut hs₃.extBut D.TOi2.symm)
      (((hl2.extBut hs₁.extBut D.l2z).extBut hs₂.extBut D.l2i1).extBut hs₃.extBut D.l2TO) hy fun h₄ h2₄ hs₄ => wpAny_pure ?_)
    have hTO₄ : IsPair h₄ TO x b := hs₄.extBut _ _ D.TOi2 hTO₃
    refine wpAny_bind (wpAny_seqItems hTO₄ rfl ?_)
    refine wpAny_bind (wpAny_updateSeq_pair hTO₄ fun h₅ hTO₅ hs₅ => ?_)
    replace hTO₅ : IsPair h₅ TO x y := hTO₅
    refine wpAny_bind (wpAny_letGo (wpAny_pure (wpAny_pure ?_)))
    refine wpAny_bind (wpAny_seqItems hTO₅ rfl ?_)
    refine wpAny_bind (wpAny_newTuple ?_)
    have hsz : h₅.objs.size = s.heap.objs.size := by rw [hs₅.1, hs₄.1, hs₃.1, hs₂.1, hs₁.1]
    have hz₅ : IsZipO h₅ z TI TO .ellipsis f0 := hs₅.extBut _ _ D.TOz.symm (hs₄.extBut _ _ D.i2z.symm (hs₃.extBut _ _ D.TOz.symm (hs₂.extBut _ _ D.i1z.symm hz₁)))
    have hk₅ : ∀ c o, c ≠ z → c ≠ TO → c ≠ i1 → c ≠ i2 → s.heap.get? c = some o → h₅.get? c = some o := fun c o c1 c2 c3 c4 e =>
      hs₅.extBut _ _ c2 (hs₄.extBut _ _ c4 (hs₃.extBut _ _ c2 (hs₂.extBut _ _ c3 (hs₁.extBut _ _ c1 e))))
    have h1₅ : IsItB k1 h₅ i1 l1 (n1 + 1) := ((h1₂.extBut hs₃.extBut D.TOi1.symm).extBut hs₄.extBut D.i12).extBut hs₅.extBut D.TOi1.symm
    have h2₅ : IsItB k2 h₅ i2 l2 (n2 + 1) := h2₄.extBut hs₅.extBut D.TOi2.symm
    have hzlt : z < h₅.objs.size := Heap.lt_size hz₅
    have hTOlt : TO < h₅.objs.size := Heap.lt_size hTO₅
    show wpAny _ _ (Builtin.SmallTypes.ownedTupleHandOut (.ref z) (.ref h₅.objs.size) >>= _) _ _ _
    refine wpAny_bind ?_
    unfold Builtin.SmallTypes.ownedTupleHandOut
    have hz₆ : IsZipO (h₅.push { cls := .type "tuple", data := .seq #[x, y] }) z TI TO .ellipsis f0 := Heap.get?_push_of_some _ hz₅
    refine wpAny_bind (wpAny_setField_rec hz₆ (by simp) fun h₇ hz₇ hs₇ => ?_)
    replace hz₇ : IsZipO h₇ z TI TO (rawInt h₅.objs.size) f0 := hz₇
    refine wpAny_setField_rec hz₇ (by simp) fun h₈ hz₈ hs₈ => ?_
    replace hz₈ : IsZipO h₈ z TI TO (rawInt h₅.objs.size) false := hz₈
    have up : ∀ c o, c ≠ z → h₅.get? c = some o → h₈.get? c = some o := fun c o c1 e => hs₈.extBut _ _ c1 (hs₇.extBut _ _ c1 (Heap.get?_push_of_some _ e))
    have hT₈ : IsPair h₈ h₅.objs.size x y := hs₈.extBut _ _ (Nat.ne_of_gt hzlt) (hs₇.extBut _ _ (Nat.ne_of_gt hzlt) (Heap.get?_push_size _ rfl))
    have hz8 : h₈.objs.size = h₅.objs.size + 1 := by rw [hs₈.1, hs₇.1, Heap.size_push]
    rw [hsz] at hz₈ hT₈ hz8
    refine wpAny_pure ⟨_, rfl, ?_⟩
    show Q (.ref h₅.objs.size) _
    rw [hsz]
    exact hQ h₈ ⟨_, _, .inr ⟨_, rfl⟩, hz₈⟩ ⟨_, _, up _ _ D.TOz hTO₅⟩ (h1₅.at fun o e => up _ o D.i1z e) (h2₅.at fun o e => up _ o D.i2z e) hT₈ hz8 fun c o c1 c2 c3 c4 e => up c o c1 (hk₅ c o c1 c2 c3 c4 e)
  | false =>
    obtain ⟨v1, f1, hv1, hz₁⟩ := hzs
    have hs₁ := hs₀
    simp only [Bool.false_eq_true, if_false]
    refine wpAny_bind ?_
    rw [← Array.forIn_toList]
    simp only [List.forIn_cons, List.forIn_nil]
    refine wpAny_bind (wpAny_bind (wpAny_holding ?_))
    show wpAny _ _ (Builtin.SmallTypes.nextOf (.ref i1) >>= _) _ _ _
    refine wpAny_bind (nextB_item (s := { s with heap := h₀ }) (h1.extBut hs₁.extBut D.i1z) (hl1.extBut hs₁.extBut D.l1z) hx fun h₂ h1₂ hs₂ => wpAny_pure ?_)
    refine wpAny_pure ?_
    refine wpAny_bind (wpAny_bind (wpAny_holding ?_))
    show wpAny _ _ (Builtin.SmallTypes.nextOf (.ref i2) >>= _) _ _ _
    refine wpAny_bind (nextB_item (s := { s with heap := h₂ }) ((h2.extBut hs₁.extBut D.i2z).extBut hs₂.extBut D.i12.symm) ((hl2.extBut hs₁.extBut D.l2z).extBut hs₂.extBut D.l2i1) hy fun h₃ h2₃ hs₃ => wpAny_pure ?_)
    refine wpAny_pure (wpAny_pure ?_)
    show wpAny _ _ (newTuple [x, y] >>= _) _ _ _
    refine wpAny_bind (wpAny_newTuple ?_)
    have hsz : h₃.objs.size = s.heap.objs.size := by rw [hs₃.1, hs₂.1, hs₁.1]
    have hz₃ : IsZipO h₃ z TI TO v1 f1 := hs₃.extBut _ _ D.i2z.symm (hs₂.extBut _ _ D.i1z.symm hz₁)
    have hTO₃ : IsPair h₃ TO a b := hs₃.extBut _ _ D.TOi2 (hs₂.extBut _ _ D.TOi1 (hs₁.extBut _ _ D.TOz hTO))
    have hk : ∀ c o, c ≠ z → c ≠ i1 → c ≠ i2 → s.heap.get? c = some o → h₃.get? c = some o := fun c o c1 c2 c3 e => hs₃.extBut _ _ c3 (hs₂.extBut _ _ c2 (hs₁.extBut _ _ c1 e))
    have h1₃ : IsItB k1 h₃ i1 l1 (n1 + 1) := h1₂.extBut hs₃.extBut D.i12
    refine wpAny_pure ⟨_, rfl, ?_⟩
    show Q (.ref h₃.objs.size) _
    have hp : IsPair (h₃.push { cls := .type "tuple", data := .seq #[x, y] }) h₃.objs.size x y := Heap.get?_push_size _ rfl
    have hz4 : (h₃.push { cls := .type "tuple", data := .seq #[x, y] }).objs.size = h₃.objs.size + 1 := Heap.size_push ..
    rw [hsz] at hp hz4 ⊢
    exact hQ _ ⟨v1, f1, hv1, Heap.get?_push_of_some _ hz₃⟩ ⟨_, _, Heap.get?_push_of_some _ hTO₃⟩ (h1₃.at fun o e => Heap.get?_push_of_some _ e) (h2₃.at fun o e => Heap.get?_push_of_some _ e) hp hz4
      fun c o c1 _ c2 c3 e => Heap.get?_push_of_some _ (hk c o c1 c2 c3 e)
theorem zipB_end {k1 k2 : Bool} {z TI TO i1 i2 l1 l2 : Addr} {n1 n2 : Nat} {xs ys : Array Value} {a b : Value} {Q : Fin → Shared → Prop} (hh : A.handled = none) (D : ZipApart z TI TO i1 i2 l1 l2)
    (hz : ZipSt s.heap z TI TO) (hTI : IsPair s.heap TI (.ref i1) (.ref i2)) (hTO : IsPair s.heap TO a b)
    (h1 : IsItB k1 s.heap i1 l1 n1) (h2 : IsItB k2 s.heap i2 l2 n2) (hl1 : IsSeqB k1 s.heap l1 xs) (hl2 : IsSeqB k2 s.heap l2 ys) (hend : xs[n1]? = none ∨ ys[n2]? = none)
    (hE : ∀ h' e, (∀ c o, c ≠ z → c ≠ TO → c ≠ i1 → c ≠ i2 → s.heap.get? c = some o → h'.get? c = some o) → (∃ o, h'.get? e = some o ∧ o.cls = .type "StopIteration") → E (.ref e) { s with heap := h' }) :
    wpAny (model prog w) A (Builtin.«zip.__next__» ⟨[.ref z], []⟩) Q E s := by
  obtain ⟨v0, f0, _, hz0⟩ := id hz
  show wpAny _ _ (field (.ref z) 2 >>= _) _ _ _
  refine wpAny_bind (wpAny_field hz0 rfl (x := .bool false) rfl ?_)
  show wpAny _ _ (field (.ref z) 3 >>= _) _ _ _
  refine wpAny_bind (wpAny_field hz0 rfl (x := .ref TI) rfl ?_)
  refine wpAny_bind (wpAny_seqItems hTI rfl ?_)
  show wpAny _ _ (Builtin.SmallTypes.ownedTupleIsFree (.ref z) >>= _) _ _ _
  refine wpAny_bind (owned_any hz fun fr h₀ hzs hs₀ => ?_)
  cases fr with
  | true =>
    obtain ⟨v0, f0, _, hz⟩ := hzs
    simp only [if_true]
    refine wpAny_bind (wpAny_rule ?_)
    refine wpAny_bind (wpAny_field (s := { s with heap := h₀ }) hz rfl (x := .ref TO) rfl ?_)
    refine wpAny_bind (wpAny_setField_rec (s := { s with heap := h₀ }) hz (by simp) fun h₁ hz₁ hs₁' => ?_)
    replace hz₁ : IsZipO h₁ z TI TO .ellipsis f0 := hz₁
    have hs₁ : Heap.SameBut z s.heap h₁ := Heap.SameBut.trans hs₀ hs₁'
    refine wpAny_bind ?_
    simp only [List.zipIdx_cons, List.zipIdx_nil, List.forIn_cons, List.forIn_nil]
    refine wpAny_bind (wpAny_bind (wpAny_onRaise ?_))
    show wpAny _ _ (Builtin.SmallTypes.nextOf (.ref i1) >>= _) _ _ _
    cases hx : xs[n1]? with
    | none =>
      refine wpAny_bind (nextB_end hh (h1.extBut hs₁.extBut D.i1z) (hl1.extBut hs₁.extBut D.l1z) hx fun h₂ e hs₂ he => ?_)
      obtain ⟨oe, hoe, hce⟩ := he
      have hz₂ : IsZipO h₂ z TI TO .ellipsis f0 := hs₂ _ _ D.i1z.symm hz₁
      have hez : e ≠ z := fun x => by subst x; rw [hz₂] at hoe; cases hoe; simp at hce
      refine wpAny_setField_rec hz₂ (by simp) fun h₃ _ hs₃ => hE h₃ e (fun c o c1 _ c3 _ x => hs₃.extBut _ _ c1 (hs₂ _ _ c3 (hs₁.extBut _ _ c1 x))) ⟨oe, hs₃.extBut _ _ hez hoe, hce⟩
    | some x =>
      have hy : ys[n2]? = none := by rcases hend with h | h; rw [hx] at h; cases h; exact h
      refine wpAny_bind (nextB_item (h1.extBut hs₁.extBut D.i1z) (hl1.extBut hs₁.extBut D.l1z) hx fun h₂ h1₂ hs₂ => wpAny_pure ?_)
      have hTO₂ : IsPair h₂ TO a b := hs₂.extBut _ _ D.TOi1 (hs₁.extBut _ _ D.TOz hTO)
      refine wpAny_bind (wpAny_seqItems hTO₂ rfl ?_)
      refine wpAny_bind (wpAny_updateSeq_pair hTO₂ fun h₃ hTO₃ hs₃ => ?_)
      refine wpAny_bind (wpAny_letGo (wpAny_pure ?_))
      refine wpAny_bind (wpAny_bind (wpAny_onRaise ?_))
      show wpAny _ _ (Builtin.SmallTypes.nextOf (.ref i2) >>= _) _ _ _
      refine wpAny_bind (nextB_end hh (((h2.extBut hs₁.extBut D.i2z).extBut hs₂.extBut D.i12.symm).extBut hs₃.extBut D.TOi2.symm)
        (((hl2.extBut hs₁.extBut D.l2z).extBut hs₂.extBut D.l2i1).extBut hs₃.extBut D.l2TO) hy fun h₄ e hs₄ he => ?_)
      obtain ⟨oe, hoe, hce⟩ := he
      have hz₄ : IsZipO h₄ z TI TO .ellipsis f0 := hs₄ _ _ D.i2z.symm (hs₃.extBut _ _ D.TOz.symm (hs₂.extBut _ _ D.i1z.symm hz₁))
      have hez : e ≠ z := fun x => by subst x; rw [hz₄] at hoe; cases hoe; simp at hce
      refine wpAny_setField_rec hz₄ (by simp) fun h₅ _ hs₅ => hE h₅ e (fun c o c1 c2 c3 c4 x => hs₅.extBut _ _ c1 (hs₄ _ _ c4 (hs₃.extBut _ _ c2 (hs₂.extBut _ _ c3 (hs₁.extBut _ _ c1 x))))) ⟨oe, hs₅.extBut _ _ hez hoe, hce⟩
  | false =>
    have hs₁ := hs₀
    simp only [Bool.false_eq_true, if_false]
    refine wpAny_bind ?_
    rw [← Array.forIn_toList]
    simp only [List.forIn_cons, List.forIn_nil]
    refine wpAny_bind (wpAny_bind (wpAny_holding ?_))
    show wpAny _ _ (Builtin.SmallTypes.nextOf (.ref i1) >>= _) _ _ _
    cases hx : xs[n1]? with
    | none =>
      refine wpAny_bind (nextB_end (s := { s with heap := h₀ }) hh (h1.extBut hs₁.extBut D.i1z) (hl1.extBut hs₁.extBut D.l1z) hx fun h₂ e hs₂ he => ?_)
      exact hE h₂ e (fun c o c1 _ c2 _ x => hs₂ _ _ c2 (hs₁.extBut _ _ c1 x)) he
    | some x =>
      have hy : ys[n2]? = none := by rcases hend with h | h; rw [hx] at h; cases h; exact h
      refine wpAny_bind (nextB_item (s := { s with heap := h₀ }) (h1.extBut hs₁.extBut D.i1z) (hl1.extBut hs₁.extBut D.l1z) hx fun h₂ h1₂ hs₂ => wpAny_pure ?_)
      refine wpAny_pure ?_
      refine wpAny_bind (wpAny_bind (wpAny_holding ?_))
      show wpAny _ _ (Builtin.SmallTypes.nextOf (.ref i2) >>= _) _ _ _
      refine wpAny_bind (nextB_end (s := { s with heap := h₂ }) hh ((h2.extBut hs₁.extBut D.i2z).extBut hs₂.extBut D.i12.symm) ((hl2.extBut hs₁.extBut D.l2z).extBut hs₂.extBut D.l2i1) hy fun h₃ e hs₃ he => ?_)
      exact hE h₃ e (fun c o c1 _ c2 c3 x => hs₃ _ _ c3 (hs₂.extBut _ _ c2 (hs₁.extBut _ _ c1 x))) he
theorem pyNext_zipB_item {k1 k2 : Bool} {z TI TO i1 i2 l1 l2 : Addr} {n1 n2 : Nat} {xs ys : Array Value} {x y a b : Value} {Q : Option Value → Shared → Prop} (D : ZipApart z TI TO i1 i2 l1 l2)
    (hz : ZipSt s.heap z TI TO) (hTI : IsPair s.heap TI (.ref i1) (.ref i2)) (hTO : IsPair s.heap TO a b)
    (h1 : IsItB k1 s.heap i1 l1 n1) (h2 : IsItB k2 s.heap i2 l2 n2) (hl1 : IsSeqB k1 s.heap l1 xs) (hl2 : IsSeqB k2 s.heap l2 ys) (hx : xs[n1]? = some x) (hy : ys[n2]? = some y)
    (hQ : ∀ h', ZipSt h' z TI TO → (∃ a b, IsPair h' TO a b) → IsItB k1 h' i1 l1 (n1 + 1) → IsItB k2 h' i2 l2 (n2 + 1) → IsPair h' s.heap.objs.size x y → h'.objs.size = s.heap.objs.size + 1 →
      (∀ c o, c ≠ z → c ≠ TO → c ≠ i1 → c ≠ i2 → s.heap.get? c = some o → h'.get? c = some o) → Q (some (.ref s.heap.objs.size)) { s with heap := h' }) :
    wpAny (model prog w) A (pyNext (.ref z)) Q E s := by
  obtain ⟨v0, f0, _, hz0⟩ := id hz
  have hT : s.TypeIs (.ref z) "zip" := ⟨_, hz0, rfl⟩
  unfold pyNext
  exact wpAny_bind (wpAny_attempt (wpAny_callSpecial?_slot (name := Str.ofString "__next__") hT F.slot_zip_next
    (wpAny_call_entry F.slot_zip_next hT F.entry_zip_next
      (zipB_item D hz hTI hTO h1 h2 hl1 hl2 hx hy fun h' a1 a2 a3 a4 a5 a6 a7 => wpAny_pure (hQ h' a1 a2 a3 a4 a5 a6 a7)) (F.args_zip_next_1 _))))
theorem pyNext_zipB_end {k1 k2 : Bool} {z TI TO i1 i2 l1 l2 : Addr} {n1 n2 : Nat} {xs ys : Array Value} {a b : Value} {Q : Option Value → Shared → Prop} (hh : A.handled = none) (D : ZipApart z TI TO i1 i2 l1 l2)
    (hz : ZipSt s.heap z TI TO) (hTI : IsPair s.heap TI (.ref i1) (.ref i2)) (hTO : IsPair s.heap TO a b)
    (h1 : IsItB k1 s.heap i1 l1 n1) (h2 : IsItB k2 s.heap i2 l2 n2) (hl1 : IsSeqB k1 s.heap l1 xs) (hl2 : IsSeqB k2 s.heap l2 ys) (hend : xs[n1]? = none ∨ ys[n2]? = none)
    (hQ : ∀ h', (∀ c o, c ≠ z → c ≠ TO → c ≠ i1 → c ≠ i2 → s.heap.get? c = some o → h'.get? c = some o) → Q none { s with heap := h' }) : wpAny (model prog w) A (pyNext (.ref z)) Q E s := by
  obtain ⟨v0, f0, _, hz0⟩ := id hz
  have hT : s.TypeIs (.ref z) "zip" := ⟨_, hz0, rfl⟩
  unfold pyNext
  refine wpAny_bind (wpAny_attempt (wpAny_callSpecial?_slot (name := Str.ofString "__next__") hT F.slot_zip_next
    (wpAny_call_entry F.slot_zip_next hT F.entry_zip_next (zipB_end hh D hz hTI hTO h1 h2 hl1 hl2 hend fun h' e hk he => ?_) (F.args_zip_next_1 _))))
  obtain ⟨o, ho, hc⟩ := he
  refine wpAny_bind (wpAny_isInstance (T := "StopIteration") (b := true) ⟨o, ho, hc⟩ isSubtype_stop ?_)
  exact wpAny_pure (hQ _ hk)
end
end Rw

set_option Elab.async false
set_option linter.all false
set_option maxRecDepth 100000
set_option maxHeartbeats 4000000
namespace Rw
open PySem PySem.Spec PyProof.Rows L2 RZ
namespace F
theorem zip_no_len : typeLookup (.type "zip") "__len__" = pure none := by rw [typeLookup_type, builtinLookup_eq_fast]; kernel_rfl
theorem zip_no_hint : typeLookup (.type "zip") "__length_hint__" = pure none := by rw [typeLookup_type, builtinLookup_eq_fast]; kernel_rfl
end F
def SqB (k : Bool) (K : PySem.W.Frag) (H : Hp) (a : Addr) (xs : List V) : Prop := match k with
  | true => SqT K H a xs
  | false => SqL K H a xs
section
variable {X : Cx} {pins : List (Addr × Obj)} {σ : L2.St} {H : Hp} {s : Shared}
theorem sqB_at {k : Bool} {a : Addr} {xs : List V} (I : Inv X pins σ H s) (h : SqB k X.K H a xs) : ∃ its : List Value, Vals xs its ∧ IsSeqB k s.heap a its.toArray ∧ a < s.heap.objs.size ∧ xs.length ≤ sizeLine := by
  cases k
  · obtain ⟨its, rv, p, z⟩ := I.list (show SqL X.K H a xs from h)
    exact ⟨its, rv, p.isList, p.lt, z⟩
  · obtain ⟨its, rv, p, z⟩ := I.tuple (show SqT X.K H a xs from h)
    obtain ⟨o, ho, _⟩ := id p
    exact ⟨its, rv, p, Heap.lt_size ho, z⟩
theorem sqB_inj {k : Bool} {a : Addr} {xs ys : List V} (I : Inv X pins σ H s) (h : SqB k X.K H a xs) (h' : SqB k X.K H a ys) : xs = ys := by
  cases k
  · exact I.list_inj (show SqL X.K H a xs from h) h'
  · exact I.tuple_inj (show SqT X.K H a xs from h) h'
theorem SqL.same {K : PySem.W.Frag} {H H' : Hp} {a : Addr} {xs : List V} (h : SqL K H a xs) (s : Same H H') (n : H a = none → H' a = none) : SqL K H' a xs := by
  rcases h with h | h
  · rcases h with h | ⟨o, h⟩
    · exact .inl (.inl (s _ _ h))
    · exact .inl (.inr ⟨o, s _ _ h⟩)
  · exact .inr h
end
/-- the sequences at a and b as they stand at each turn, the items in new pairs -/
def ItzB (k : Bool) (K : PySem.W.Frag) (a b : Addr) : It :=
  ⟨fun i H => ∃ (xs ys : List V) (x y : V), SqB k K H a xs ∧ SqB k K H b ys ∧ xs[i]? = some x ∧ ys[i]? = some y,
    fun i H v H' => ∃ T x y, v = .ref T ∧ H T = none ∧ H' = upd H T (.tup [x, y]) ∧ (∀ xs, SqB k K H a xs → xs[i]? = some x) ∧ ∀ ys, SqB k K H b ys → ys[i]? = some y,
    fun i H => ∃ xs ys : List V, SqB k K H a xs ∧ SqB k K H b ys ∧ (xs.length ≤ i ∨ ys.length ≤ i)⟩
abbrev zipSt (k : Bool) (a b z TI TO i1 i2 : Addr) (i : Nat) (h : Heap) : Prop := ZipSt h z TI TO ∧ IsPair h TI (.ref i1) (.ref i2) ∧ (∃ x y, IsPair h TO x y) ∧ IsItB k h i1 a i ∧ IsItB k h i2 b i
theorem zipSt_keep {k : Bool} {a b z TI TO i1 i2 : Addr} {i : Nat} {h h' : Heap} (st : zipSt k a b z TI TO i1 i2 i h) (q : ∀ c ∈ [z, TI, TO, i1, i2], ∀ o, h.get? c = some o → h'.get? c = some o) : zipSt k a b z TI TO i1 i2 i h' := by
  obtain ⟨⟨v, f, hv, hz⟩, hTI, ⟨x, y, hTO⟩, h1, h2⟩ := st
  exact ⟨⟨v, f, hv, q z (by simp) _ hz⟩, q TI (by simp) _ hTI, ⟨x, y, q TO (by simp) _ hTO⟩, h1.at fun o e => q i1 (by simp) o e, h2.at fun o e => q i2 (by simp) o e⟩
theorem zipSt_obj {k : Bool} {a b z TI TO i1 i2 : Addr} {i : Nat} {h : Heap} (st : zipSt k a b z TI TO i1 i2 i h) : ∀ c ∈ [z, TI, TO, i1, i2], ∃ o, h.get? c = some o ∧ ∀ v, o.data ≠ .cell v := by
  obtain ⟨⟨v, f, hv, hz⟩, hTI, ⟨x, y, hTO⟩, h1, h2⟩ := st
  intro c hc
  have e' : c = z ∨ c = TI ∨ c = TO ∨ c = i1 ∨ c = i2 := by simpa using hc
  rcases e' with q | q | q | q | q
  · rw [q]; exact ⟨_, hz, fun v q => nomatch q⟩
  · rw [q]; exact ⟨_, hTI, fun v q => nomatch q⟩
  · rw [q]; exact ⟨_, hTO, fun v q => nomatch q⟩
  · rw [q]; exact h1.there
  · rw [q]; exact h2.there
/-- one turn: a new pair, tracked -/
theorem zip_turn {X : Cx} {pins : List (Addr × Obj)} {σ : L2.St} {H : Hp} {s : Shared} {A : Around} {k : Bool} {a b z TI TO i1 i2 : Addr} {i : Nat} {xs ys : List V} {x y : V} {E : Value → Shared → Prop} {Q : Option Value → Shared → Prop} (D : ZipApart z TI TO i1 i2 a b)
    (I : Inv X pins σ H s) (hf : ∀ c ∈ [z, TI, TO, i1, i2], FpOk X pins H c) (st : zipSt k a b z TI TO i1 i2 i s.heap) (hqx : SqB k X.K H a xs) (hqy : SqB k X.K H b ys) (hx : xs[i]? = some x) (hy : ys[i]? = some y)
    (hQ : ∀ (T : Addr) (s1 : Shared), Inv X pins σ (upd H T (.tup [x, y])) s1 → H T = none → zipSt k a b z TI TO i1 i2 (i + 1) s1.heap → (∀ c ∈ [z, TI, TO, i1, i2], FpOk X pins (upd H T (.tup [x, y])) c) → Q (some (.ref T)) s1) :
    wpAny (model X.prog X.w) A (pyNext (.ref z)) Q E s := by
  obtain ⟨hz, hTI, ⟨x0, y0, hTO⟩, h1, h2⟩ := id st
  obtain ⟨its, rv, p, _, _⟩ := sqB_at I hqx
  obtain ⟨its2, rv2, p2, _, _⟩ := sqB_at I hqy
  obtain ⟨u, hu, ru⟩ := rv.get hx
  obtain ⟨u2, hu2, ru2⟩ := rv2.get hy
  refine pyNext_zipB_item D hz hTI hTO h1 h2 p p2 (x := u) (y := u2) (by simpa using hu) (by simpa using hu2) fun h' z' TO' h1' h2' hT hsz hk => ?_
  have new : ObjOk X.prog X.w (upd H s.heap.objs.size (.tup [x, y])) h' s.heap.objs.size (.tup [x, y]) :=
    ⟨by show 2 ≤ sizeLine; decide, [u, u2], .cons ru (.cons ru2 .nil), ⟨_, hT, rfl, _, rfl⟩⟩
  have I1 : Inv X pins σ (upd H s.heap.objs.size (.tup [x, y])) { s with heap := h' } :=
    I.turnedNew (t' := s.toks) (ch := [z, TI, TO, i1, i2]) (fun c o hb q => hk c o (fun q' => hb (by simp [q'])) (fun q' => hb (by simp [q'])) (fun q' => hb (by simp [q'])) (fun q' => hb (by simp [q'])) q) hf (Nat.le_refl _) new
  refine hQ _ _ I1 (I.hok.fresh (Nat.le_refl _)) ⟨z', hk _ _ D.TIz D.TITO D.TIi1 D.TIi2 hTI, TO', h1', h2'⟩ fun c hcm => ?_
  obtain ⟨o, ho, _⟩ := zipSt_obj st c hcm
  obtain ⟨f0, f1⟩ := hf c hcm
  exact ⟨by rw [upd_ne (Nat.ne_of_lt (Heap.lt_size ho))]; exact f0, f1⟩
theorem zip_stop {X : Cx} {pins : List (Addr × Obj)} {σ : L2.St} {H : Hp} {s : Shared} {A : Around} {k : Bool} {a b z TI TO i1 i2 : Addr} {i : Nat} {xs ys : List V} {E : Value → Shared → Prop} {Q : Option Value → Shared → Prop} (hh : A.handled = none) (D : ZipApart z TI TO i1 i2 a b)
    (I : Inv X pins σ H s) (hf : ∀ c ∈ [z, TI, TO, i1, i2], FpOk X pins H c) (st : zipSt k a b z TI TO i1 i2 i s.heap) (hqx : SqB k X.K H a xs) (hqy : SqB k X.K H b ys) (hend : xs.length ≤ i ∨ ys.length ≤ i)
    (hQ : ∀ s1 : Shared, Inv X pins σ H s1 → Q none s1) : wpAny (model X.prog X.w) A (pyNext (.ref z)) Q E s := by
  obtain ⟨hz, hTI, ⟨x0, y0, hTO⟩, h1, h2⟩ := id st
  obtain ⟨its, rv, p, _, _⟩ := sqB_at I hqx
  obtain ⟨its2, rv2, p2, _, _⟩ := sqB_at I hqy
  have l1 := rv.length
  have l2 := rv2.length
  have he : its.toArray[i]? = none ∨ its2.toArray[i]? = none := by
    rcases hend with q | q
    · exact .inl (by simp; omega)
    · exact .inr (by simp; omega)
  exact pyNext_zipB_end hh D hz hTI hTO h1 h2 p p2 he fun h' hk => hQ _ (I.turnedL (t' := s.toks) (ch := [z, TI, TO, i1, i2]) (fun c o hb q =>
      hk c o (fun q' => hb (by simp [q'])) (fun q' => hb (by simp [q'])) (fun q' => hb (by simp [q'])) (fun q' => hb (by simp [q'])) q) hf)
/-- the target is a name: the pairs are kept -/
theorem turn_zipB {P : Program} {w : World} {K : PySem.W.Frag} {k : Bool} {x : Str} {tpos : Pos} {a b z TI TO i1 i2 : Addr} (D : ZipApart z TI TO i1 i2 a b) :
    Turn P w K (.Name x tpos) (ItzB k K a b) [z, TI, TO, i1, i2] z (fun i h => zipSt k a b z TI TO i1 i2 i h) where
  mem := by simp
  obj := fun i h st c hc => zipSt_obj st c hc
  keep := fun i h h' st k => zipSt_keep st k
  item := by
    intro X hP hw hK hc i pins s σ H E I hf st hg
    subst hP hw hK
    obtain ⟨xs, ys, x, y, hqx, hqy, hx, hy⟩ := hg
    refine zip_turn D I hf st hqx hqy hx hy fun T s1 I1 fT st1 hf1 => ⟨_, rfl, wpAny_pure ⟨.ref T, _, I1, rfl, ⟨T, x, y, rfl, fT, rfl, fun l hl => by rw [sqB_inj I hl hqx]; exact hx, fun l hl => by rw [sqB_inj I hl hqy]; exact hy⟩, st1, fun c hcm => (hf1 c hcm).1⟩⟩
  done := by
    intro X hP hw hK hc i pins s σ H E I hf st hg
    subst hP hw hK
    obtain ⟨xs, ys, hqx, hqy, hend⟩ := hg
    exact zip_stop (I.ok.hd hc) D I hf st hqx hqy hend fun s1 I1 => ⟨rfl, I1⟩
  self := fun A i s Q E st h => by
    obtain ⟨v, f, _, hz⟩ := st.1
    have hT : s.TypeIs (.ref z) "zip" := ⟨_, hz, rfl⟩
    refine wpAny_pyIter_slot hT PySem.F.slot_zip_iter (wpAny_call_entry PySem.F.slot_zip_iter hT PySem.F.entry_zip_iter ?_ (PySem.F.args_zip_iter_1 _))
    show wpAny _ _ (ret (.ref z)) _ _ s
    exact wpAny_pure ⟨_, rfl, "zip", _, hT, PySem.F.slot_zip_next.lookup, h⟩
theorem five_fresh {X : Cx} {pins : List (Addr × Obj)} {σ : L2.St} {H : Hp} {s : Shared} (I : Inv X pins σ H s) : ∀ c, c ∈ [s.heap.objs.size + 4, s.heap.objs.size + 2, s.heap.objs.size + 3, s.heap.objs.size, s.heap.objs.size + 1] → FpOk X pins H c := fun c hcm => by
  have e' : c = s.heap.objs.size + 4 ∨ c = s.heap.objs.size + 2 ∨ c = s.heap.objs.size + 3 ∨ c = s.heap.objs.size ∨ c = s.heap.objs.size + 1 := by simpa using hcm
  have hle : s.heap.objs.size ≤ c := by
    rcases e' with z | z | z | z | z
    · rw [z]; exact Nat.le_add_right _ _
    · rw [z]; exact Nat.le_add_right _ _
    · rw [z]; exact Nat.le_add_right _ _
    · rw [z]; exact Nat.le_refl _
    · rw [z]; exact Nat.le_add_right _ _
  exact I.fpOk hle (I.hok.fresh hle)
/-- the zip made -/
theorem call_zipB {X : Cx} {pins : List (Addr × Obj)} {σ : L2.St} {H : Hp} {s : Shared} {A : Around} {k : Bool} {a b : Addr} {xs ys : List V} {E : Value → Shared → Prop} {Q : Value → Shared → Prop} (I : Inv X pins σ H s) (hqx : SqB k X.K H a xs) (hqy : SqB k X.K H b ys)
    (hQ : ∀ (z TI TO i1 i2 : Addr) (s1 : Shared), ZipApart z TI TO i1 i2 a b → Inv X pins σ H s1 → zipSt k a b z TI TO i1 i2 0 s1.heap → (∃ v, IsZip s1.heap z TI TO v) → (∀ c ∈ [z, TI, TO, i1, i2], FpOk X pins H c) → Q (.ref z) s1) :
    wpAny (model X.prog X.w) A (call (.type "zip") [.ref a, .ref b]) Q E s := by
  obtain ⟨its, rv, p, la, _⟩ := sqB_at I hqx
  obtain ⟨its2, rv2, p2, lb, _⟩ := sqB_at I hqy
  have D := PySem.W.ktu_apart s.heap.objs.size a b la lb
  cases k
  · refine call_zip_2 (show s.heap.IsList a its.toArray from p) (show s.heap.IsList b its2.toArray from p2) fun h' hz hTI hTO h1 h2 hsz hk => ?_
    exact hQ _ _ _ _ _ _ D (I.kept (t' := s.toks) hk) ⟨⟨_, _, .inl rfl, hz⟩, hTI, ⟨_, _, hTO⟩, h1, h2⟩ ⟨_, hz⟩ (five_fresh I)
  · refine call_zipT (show s.heap.IsTuple a its.toArray from p) (show s.heap.IsTuple b its2.toArray from p2) fun h' hz hTI hTO h1 h2 hsz hk => ?_
    exact hQ _ _ _ _ _ _ D (I.kept (t' := s.toks) hk) ⟨⟨_, _, .inl rfl, hz⟩, hTI, ⟨_, _, hTO⟩, h1, h2⟩ ⟨_, hz⟩ (five_fresh I)
def iZipN (K : PySem.W.Frag) (ta : TA) : TI := fun σ H R => ta σ H fun vs H1 => ∃ k a b xs ys, vs = [.ref a, .ref b] ∧ SqB k K H1 a xs ∧ SqB k K H1 b ys ∧ R (ItzB k K a b) H1
/-- for p in zip(a, b), the pair kept -/
theorem pi_zipN {X : Cx} {K : PySem.W.Frag} {e e2 : Expr} {ta : TA} {p pos tpos : Pos} {x : Str} (hK : X.K = K) (hg : Gl X "zip") (hm : X.mg "zip" = none) (ha : PA X [e, e2] ta)
    (hs : starEach [e, e2] X.env = (false, eval e X.env) :: starEach [e2] X.env := by rfl) (hpl : (backTo pos (starEach [e2] X.env)).any (·.1) = false := by rfl) :
    PI X (.Name x tpos) (.Call (.Name "zip" p) [e, e2] [] pos) (iZipN K ta) := by
  subst hK
  refine ⟨fun pins s σ H R I h => ?_⟩
  refine Call_ (ld_blt I hg hm PyProof.Rows.boot_zip (PyProof.Rows.callWith_type1 (thn (ha.run pos pins s σ H _ I h) fun us s1 ⟨vs, H1, I1, r1, q1⟩ => ?_) hs hpl))
  obtain ⟨k, a, b, xs, ys, ex, hqx, hqy, q⟩ := q1
  subst ex
  cases r1 with
  | cons r rr =>
    cases rr with
    | cons r' rr =>
      cases rr
      cases r
      cases r'
      refine call_zipB I1 hqx hqy fun z TI TO i1 i2 s2 D I2 st hz hf => ?_
      obtain ⟨v, hz⟩ := hz
      exact wpAny_pyIter_zip hz ⟨z, _, _, _, H1, rfl, I2, turn_zipB D, st, hf, q⟩
/-- the reading of such a comprehension -/
theorem lc_zipB {k : Bool} {K : PySem.W.Frag} {a b : Addr} {xs ys : List V} {g : TG} {tt : TT} {te : TE} {vs : List Nat} {σ : L2.St} {H1 : Hp} {D : Addr} {Qd : Hp → Prop} (hxy : xs.length = ys.length) (Pv : Nat → Hp → Prop) (h0 : Pv 0 (upd H1 D (.lst []))) (hl : ∀ i H, i ≤ xs.length → Pv i H → SqB k K H a xs ∧ SqB k K H b ys)
    (hs : ∀ i x y T H, xs[i]? = some x → ys[i]? = some y → Pv i H → H T = none → g (.ref T) (wipe σ vs) (upd H T (.tup [x, y])) fun σ2 H2 => wipe σ2 vs = wipe σ vs ∧ tt σ2 H2 fun b H3 =>
      if b = true then te σ2 H3 fun y H4 => ∃ acc, H4 D = some (.lst acc) ∧ acc.length < sizeLine ∧ Pv (i + 1) (upd H4 D (.lst (acc ++ [y]))) else Pv (i + 1) H3) (hd : ∀ H, Pv xs.length H → Qd H) :
    ∃ W : Nat → Nat → Hp → Prop, (∃ m, W 0 m (upd H1 D (.lst []))) ∧ ∀ i m H, W i m H →
      ((ItzB k K a b).stop i H ∧ Qd H) ∨ ((ItzB k K a b).go i H ∧ ∃ Nx : Hp → Prop, (∀ H', Nx H' → ∃ m', m' < m ∧ W (i + 1) m' H') ∧ ∀ x H', (ItzB k K a b).yld i H x H' → g x (wipe σ vs) H' fun σ2 H2 => wipe σ2 vs = wipe σ vs ∧ tt σ2 H2 fun b H3 =>
        if b = true then te σ2 H3 fun y H4 => ∃ acc, H4 D = some (.lst acc) ∧ acc.length < sizeLine ∧ Nx (upd H4 D (.lst (acc ++ [y]))) else Nx H3) := by
  refine ⟨fun i m H => m = xs.length - i ∧ i ≤ xs.length ∧ Pv i H, ⟨xs.length, by simp, Nat.zero_le _, h0⟩, ?_⟩
  rintro i m H ⟨rfl, hi, p⟩
  obtain ⟨q1, q2⟩ := hl i H hi p
  by_cases hlt : i < xs.length
  · have hlt2 : i < ys.length := by omega
    refine .inr ⟨⟨xs, ys, xs[i], ys[i], q1, q2, by simp [hlt], by simp [hlt2]⟩, Pv (i + 1), fun H' p' => ⟨xs.length - (i + 1), by omega, rfl, hlt, p'⟩, fun x H' y => ?_⟩
    obtain ⟨T, x', y', rfl, hT, rfl, f1, f2⟩ := y
    exact hs i x' y' T H (f1 xs q1) (f2 ys q2) p hT
  · have e : i = xs.length := by omega
    subst e
    exact .inl ⟨⟨xs, ys, q1, q2, .inl (Nat.le_refl _)⟩, hd H p⟩
/-- the list drained from it -/
theorem drain_zip {X : Cx} {pins : List (Addr × Obj)} {σ : L2.St} {A : Around} {k : Bool} {a b z TI TO i1 i2 S : Addr} {xs ys : List V} {res : Value} {R : Result → Shared → Prop} (hh : A.handled = none) (D : ZipApart z TI TO i1 i2 a b) (hl : xs.length = ys.length) (hn : xs.length ≤ sizeLine) {H : Hp}
    (hqx : ∀ H', Same H H' → SqB k X.K H' a xs) (hqy : ∀ H', Same H H' → SqB k X.K H' b ys) (nS : H S = none)
    (hR : ∀ (ts : List Addr) (H' : Hp) (s' : Shared), Inv X pins σ H' s' → Same H H' → H' S = some (.lst (ts.map V.ref)) → ts.length = xs.length → (∀ (i : Nat) (t : Addr) (x y : V), ts[i]? = some t → xs[i]? = some x → ys[i]? = some y → H' t = some (.tup [x, y])) → R (.ok (.ret res)) s') :
    ∀ (m i : Nat) (s : Shared) (H1 : Hp) (ts : List Addr), xs.length - i = m → i ≤ xs.length → Inv X pins σ H1 s → Same H H1 → H1 S = some (.lst (ts.map V.ref)) → ts.length = i → (∀ (i : Nat) (t : Addr) (x y : V), ts[i]? = some t → xs[i]? = some x → ys[i]? = some y → H1 t = some (.tup [x, y])) →
      zipSt k a b z TI TO i1 i2 i s.heap → (∀ c ∈ [z, TI, TO, i1, i2], FpOk X pins H1 c) → codeAny (model X.prog X.w) A (.builtin "list.extend.loop" ⟨[.ref S, .ref z, res], []⟩) R s := by
  intro m
  induction m with
  | zero =>
    intro i s H1 ts hk hi I sm hS ht htt st hf
    have e : i = xs.length := by omega
    refine codeAny_builtin PySem.F.entry_extend_loop ?_
    rw [Around.under_plainId PySem.F.plain_extend_loop _]
    show wpAny _ A.in1 (pyNext (.ref z) >>= _) _ _ s
    refine wpAny_bind (zip_stop hh D I hf st (hqx _ sm) (hqy _ sm) (.inl (by omega)) fun s1 I1 => ?_)
    exact wpAny_pure (hR ts H1 s1 I1 sm hS (by omega) htt)
  | succ m ih =>
    intro i s H1 ts hk hi I sm hS ht htt st hf
    have hlt : i < xs.length := by omega
    have hlt2 : i < ys.length := by omega
    refine codeAny_builtin PySem.F.entry_extend_loop ?_
    rw [Around.under_plainId PySem.F.plain_extend_loop _]
    show wpAny _ A.in1 (pyNext (.ref z) >>= _) _ _ s
    refine wpAny_bind (zip_turn D I hf st (hqx _ sm) (hqy _ sm) (x := xs[i]) (y := ys[i]) (by simp [hlt]) (by simp [hlt2]) fun T s1 I1 fT st1 hf1 => ?_)
    have nTS : T ≠ S := fun e => by rw [e, hS] at fT; cases fT
    have hS1 : upd H1 T (.tup [xs[i], ys[i]]) S = some (.lst (ts.map V.ref)) := by rw [upd_ne (Ne.symm nTS)]; exact hS
    obtain ⟨zl, its, n, r, hlen, e⟩ := I1.lstM hS1
    have rl := r.length
    rw [List.length_map] at rl
    show wpAny _ A.in1 (updateSeq S (·.push (.ref T)) >>= _) _ _ _
    have I2 : Inv X pins σ (upd (upd H1 T (.tup [xs[i], ys[i]])) S (.lst ((ts ++ [T]).map V.ref))) { s1 with heap := s1.heap.update S (Obj.mapSeq (·.push (.ref T))) } :=
      I1.lset (t' := s1.toks) (its' := its ++ [.ref T]) hS1 e (by simp) (by rw [List.map_append]; exact r.append (.cons rfl .nil)) (by rw [List.length_map, List.length_append, List.length_singleton]; omega)
    have fpS : ∀ c ∈ [z, TI, TO, i1, i2], c ≠ S := fun c hc e => by have := (hf c hc).1; rw [e, hS] at this; cases this
    refine wpAny_bind (wpAny_updateSeq e rfl (wpAny_pure ⟨plainId_quiet PySem.F.plain_extend_loop _, ?_⟩) (by rw [List.size_toArray]; omega) (by show (its.toArray.push _).size ≤ sizeLine + 1; rw [Array.size_push, List.size_toArray]; omega))
    have sm2 : Same H (upd (upd H1 T (.tup [xs[i], ys[i]])) S (.lst ((ts ++ [T]).map V.ref))) := fun c o q => by
      rw [upd_ne (ne_of_none q nS), upd_ne (ne_of_none (sm c o q) fT)]
      exact sm c o q
    refine ih (i + 1) _ _ (ts ++ [T]) (by omega) hlt I2 sm2 upd_same (by rw [List.length_append, List.length_singleton]; omega) ?_ (zipSt_keep st1 fun c hc o q => (Heap.get?_update_other _ _ (Ne.symm (fpS c hc))).trans q) fun c hc => ?_
    · intro j t x y q1 q2 q3
      by_cases hj : j < ts.length
      · rw [List.getElem?_append_left hj] at q1
        have q := htt j t x y q1 q2 q3
        rw [upd_ne (ne_of q hS fun z => by cases z), upd_ne (ne_of_none q fT)]
        exact q
      · have : j = ts.length := by
          have := (List.getElem?_eq_some_iff.mp q1).1
          rw [List.length_append, List.length_singleton] at this
          omega
        subst this
        rw [List.getElem?_append_right (Nat.le_refl _), Nat.sub_self] at q1
        cases q1
        rw [ht] at q2 q3
        rw [List.getElem?_eq_getElem hlt] at q2
        rw [List.getElem?_eq_getElem hlt2] at q3
        cases q2
        cases q3
        rw [upd_ne nTS, upd_same]
    · obtain ⟨f0, f1⟩ := hf1 c hc
      exact ⟨by rw [upd_ne (fpS c hc)]; exact f0, f1⟩
/-- list(z) -/
theorem call_list_zip {X : Cx} {pins : List (Addr × Obj)} {σ : L2.St} {H : Hp} {s : Shared} {A : Around} {k : Bool} {a b z TI TO i1 i2 : Addr} {xs ys : List V} {E : Value → Shared → Prop} {Q : Value → Shared → Prop} (hh : A.handled = none) (D : ZipApart z TI TO i1 i2 a b) (hl : xs.length = ys.length)
    (I : Inv X pins σ H s) (hf : ∀ c ∈ [z, TI, TO, i1, i2], FpOk X pins H c) (st : zipSt k a b z TI TO i1 i2 0 s.heap) (hzz : ∃ v, IsZip s.heap z TI TO v) (hqx : ∀ H', Same H H' → SqB k X.K H' a xs) (hqy : ∀ H', Same H H' → SqB k X.K H' b ys)
    (hQ : ∀ (S : Addr) (ts : List Addr) (H' : Hp) (s' : Shared), Inv X pins σ H' s' → Same H H' → H S = none → H' S = some (.lst (ts.map V.ref)) → ts.length = xs.length → (∀ (i : Nat) (t : Addr) (x y : V), ts[i]? = some t → xs[i]? = some x → ys[i]? = some y → H' t = some (.tup [x, y])) → Q (.ref S) s') :
    wpAny (model X.prog X.w) A (call (.type "list") [.ref z]) Q E s := by
  obtain ⟨zv, hz⟩ := hzz
  have hn : xs.length ≤ sizeLine := (sqB_at I (hqx H (Same.refl _))).choose_spec.2.2.2
  have hzl : z < s.heap.objs.size := Heap.lt_size hz
  have hSz : s.heap.objs.size ≠ z := Nat.ne_of_gt hzl
  refine callType_codes (Q₁ := fun obj s₁ => obj = .ref s.heap.objs.size ∧ s₁ = { s with heap := s.heap.push { cls := .type "list", data := .seq #[] } }) PySem.F.called_list (PySem.F.typeCall_list_1 _) PySem.F.entry_list_init
    (code_list_new _ ⟨rfl, rfl⟩) fun obj s₁ h₁ => ?_
  obtain ⟨rfl, rfl⟩ := h₁
  have hS : (s.heap.push { cls := .type "list", data := .seq #[] }).get? s.heap.objs.size = some { cls := .type "list", data := .seq #[] } := Heap.get?_push_size _ rfl
  refine ⟨⟨_, hS, rfl⟩, PySem.F.args_list_init_2 _ _, ?_⟩
  show wpAny _ A.in1.in1 (do let old ← Builtin.List.listItems (.ref s.heap.objs.size); Builtin.List.listUpdate (.ref s.heap.objs.size) (fun _ => #[]); letGo old.toList.reverse; Builtin.List.listExtendWith (.ref s.heap.objs.size) (.ref z) .none) _ _ _
  refine wpAny_bind ?_
  unfold Builtin.List.listItems
  refine wpAny_bind (wpAny_seqItems hS rfl (wpAny_pure ?_))
  show wpAny _ A.in1.in1 (updateSeq s.heap.objs.size (fun _ => #[]) >>= fun _ => letGo (#[] : Array Value).toList.reverse >>= fun _ => Builtin.List.listExtendWith (.ref s.heap.objs.size) (.ref z) .none) _ _ _
  refine wpAny_bind (wpAny_updateSeq hS rfl ?_)
  have hS2 := Heap.get?_update_self (Obj.mapSeq (fun _ => (#[] : Array Value))) hS rfl
  refine wpAny_bind (wpAny_letGo ?_)
  unfold Builtin.List.listExtendWith
  have up : ∀ (h : Heap) (f : Obj → Obj), (∀ b o, s.heap.get? b = some o → h.get? b = some o) → ∀ b o, s.heap.get? b = some o → (h.update s.heap.objs.size f).get? b = some o := fun h f q b o e =>
    (Heap.get?_update_other _ _ (Ne.symm (Nat.ne_of_lt (Heap.lt_size e)))).trans (q b o e)
  have k1 : ∀ b o, s.heap.get? b = some o → (s.heap.push { cls := .type "list", data := .seq #[] }).get? b = some o := fun b o e => Heap.get?_push_of_some _ e
  have k2 := up _ (Obj.mapSeq (fun _ => (#[] : Array Value))) k1
  have gty : ∀ {h : Heap}, (∀ b o, s.heap.get? b = some o → h.get? b = some o) → (⟨h, s.gens, s.drawn, s.toks, s.os⟩ : Shared).TypeIs (.ref z) "zip" := fun {h} q => ⟨_, q _ _ hz, rfl⟩
  refine wpAny_bind (wpAny_typeOf (gty k2) ?_)
  have h1 : Builtin.List.listSameRef (.ref s.heap.objs.size) (.ref z) = false := by simp [Builtin.List.listSameRef, hSz]
  have h2 : (Value.type "zip" == Value.type "list") = false := by decide
  have h3 : (Value.type "zip" == Value.type "tuple") = false := by decide
  simp only [h1, h2, h3, Bool.or_false, Bool.false_eq_true, if_false]
  refine wpAny_bind (wpAny_pyIter_zip (s := { s with heap := _ }) (k2 _ _ hz) ?_)
  refine wpAny_bind (wpAny_holding ?_)
  unfold Builtin.List.listLengthHint
  refine wpAny_bind (wpAny_specialOf (gty k2) F.zip_no_len ?_)
  show wpAny _ A.in1.in1 (specialOf (Value.ref z) (Str.ofString "__length_hint__") >>= _) _ _ _
  refine wpAny_bind (wpAny_specialOf (gty k2) F.zip_no_hint ?_)
  refine wpAny_pure ?_
  show wpAny _ A.in1.in1 (rule "list.extend.makes-room" >>= fun _ => Builtin.List.listTouch (.ref s.heap.objs.size) >>= fun _ =>
    again (.builtin "list.extend.loop" ⟨[.ref s.heap.objs.size, .ref z, .none], []⟩)) _ _ _
  refine wpAny_bind (wpAny_rule ?_)
  refine wpAny_bind ?_
  show wpAny _ A.in1.in1 (updateSeq s.heap.objs.size (·.push .none) >>= fun _ => updateSeq s.heap.objs.size (·.pop)) _ _ _
  refine wpAny_bind (wpAny_updateSeq hS2 rfl ?_)
  have hS3 := Heap.get?_update_self (Obj.mapSeq (·.push Value.none)) hS2 rfl
  refine wpAny_updateSeq (hz := by seq_fits) hS3 rfl ?_
  have hS4 := Heap.get?_update_self (Obj.mapSeq (·.pop)) hS3 rfl
  have k4 := up _ (Obj.mapSeq (·.pop)) (up _ (Obj.mapSeq (·.push Value.none)) k2)
  refine wpAny_pure ⟨plainId_quiet PySem.F.plain_extend_loop _, ?_⟩
  have fS : H s.heap.objs.size = none := I.hok.fresh (Nat.le_refl _)
  have new : ∀ h', h'.get? s.heap.objs.size = some { cls := .type "list", data := .seq (([] : List Value).toArray), dict := none, slots := #[] } → ObjOk X.prog X.w (upd H s.heap.objs.size (.lst [])) h' s.heap.objs.size (.lst []) := fun h' e => ⟨Nat.zero_le _, [], _, .nil, e⟩
  have I0 := I.laid (t' := s.toks) k4 (Nat.le_refl _) (o := .lst []) ⟨Nat.zero_le _, [], _, .nil, hS4⟩
  have sm0 : Same H (upd H s.heap.objs.size (.lst [])) := same_new fS
  refine drain_zip (A := A.in1) (H := H) hh D hl hn hqx hqy fS (fun ts H' s' J sm e1 e2 e3 => ⟨rfl, hQ _ ts H' s' J sm fS e1 e2 e3⟩) _ 0 _ _ [] rfl (Nat.zero_le _) I0 sm0 upd_same rfl (fun i t x y q => by cases q) (zipSt_keep st fun c _ o q => k4 c o q) fun c hc => ?_
  obtain ⟨o, ho, _⟩ := zipSt_obj st c hc
  obtain ⟨f0, f1⟩ := hf c hc
  exact ⟨by rw [upd_ne (Nat.ne_of_lt (Heap.lt_size ho))]; exact f0, f1⟩
def tListZip (K : PySem.W.Frag) (ta : TA) : TE := fun σ H Q => ta σ H fun vs H1 => ∃ k a b xs ys, vs = [.ref a, .ref b] ∧ (∀ H', Same H1 H' → SqB k K H' a xs) ∧ (∀ H', Same H1 H' → SqB k K H' b ys) ∧ xs.length = ys.length ∧
  ∀ (S : Addr) (ts : List Addr) (H' : Hp), Same H1 H' → H1 S = none → H' S = some (.lst (ts.map V.ref)) → ts.length = xs.length → (∀ (i : Nat) (t : Addr) (x y : V), ts[i]? = some t → xs[i]? = some x → ys[i]? = some y → H' t = some (.tup [x, y])) → Q (.ref S) H'
/-- list(zip(a, b)) -/
theorem pe_listZip {X : Cx} {K : PySem.W.Frag} {e e2 : Expr} {ta : TA} {p pos lp lpos : Pos} (hK : X.K = K) (hc : X.calm = true) (hg : Gl X "zip") (hm : X.mg "zip" = none) (hgl : Gl X "list") (hml : X.mg "list" = none) (ha : PA X [e, e2] ta)
    (hs : starEach [e, e2] X.env = (false, eval e X.env) :: starEach [e2] X.env := by rfl) (hpl : (backTo pos (starEach [e2] X.env)).any (·.1) = false := by rfl)
    (hs1 : starEach [.Call (.Name "zip" p) [e, e2] [] pos] X.env = (false, eval (.Call (.Name "zip" p) [e, e2] [] pos) X.env) :: starEach [] X.env := by rfl) (hpl1 : (backTo lpos (starEach [] X.env)).any (·.1) = false := by rfl) :
    PE X (.Call (.Name "list" lp) [.Call (.Name "zip" p) [e, e2] [] pos] [] lpos) (tListZip K ta) := by
  subst hK
  refine ⟨fun pins s σ H Q I h => ?_⟩
  refine wpAny_Call_Name_kw (ld_blt I hgl hml (show bootBuiltins "list" = some (.type "list") by decide +kernel) ?_)
  refine PyProof.Rows.callWith_type1 ?_ hs1 hpl1
  rw [hs1]
  show wpAny _ _ (spliced ((false, eval _ X.env) :: backTo lpos (starEach [] X.env))) _ _ s
  refine Calls.spliced_cons ?_
  refine Call_ (ld_blt I hg hm PyProof.Rows.boot_zip (PyProof.Rows.callWith_type1 (thn (ha.run pos pins s σ H _ I h) fun us s1 ⟨vs, H1, I1, r1, q1⟩ => ?_) hs hpl))
  obtain ⟨k, a, b, xs, ys, ex, hqx, hqy, hl, q⟩ := q1
  subst ex
  cases r1 with
  | cons r rr =>
    cases rr with
    | cons r' rr =>
      cases rr
      cases r
      cases r'
      refine call_zipB I1 (hqx _ (Same.refl _)) (hqy _ (Same.refl _)) fun z TI TO i1 i2 s2 D I2 st hz hf => ?_
      exact Calls.spliced_nil (call_list_zip (I1.ok.hd hc) D hl I2 hf st hz hqx hqy fun S ts H' s' J sm fS e1 e2 e3 => ⟨.ref S, H', J, rfl, q S ts H' sm fS e1 e2 e3⟩)
theorem sqT_same {K : PySem.W.Frag} {H : Hp} {a : Addr} {xs : List V} (h : H a = some (.tup xs)) : ∀ H', Same H H' → SqB true K H' a xs := fun H' s => SqT.of (s _ _ h)
end Rw

set_option Elab.async false
set_option linter.all false
set_option maxRecDepth 100000
set_option maxHeartbeats 4000000
/-! raise C(), a class without __init__ -/
namespace Rw
open PySem PySem.Spec PyProof.Rows L2
section
variable {X : Cx} {C : Addr} {x : Str} {pn pos : Pos}
theorem pmk_n (W : WnC X.K C) (hg : Gl X x) (hm : X.mg x = some (.ref C)) (hdb : (x == ("__debug__" : Str)) = false := by decide) : PMk X (.Call (.Name x pn) [] [] pos) (fun _ H Q => Q (.ref C) none H) := by
  intro pins s σ H Q I q
  refine wpAny_Call_Name_kw (ld_glob I hg hm ?_ hdb)
  refine PySem.W.callWith_K0 I.kIn W.kp ?_
  obtain ⟨nm, N', qn, bs, bm, hdct, sn, sub, ab, col, dd, k0, k1, k2, k3, k5, hC, hT⟩ := PySem.W.excInit_of I.kIn W.ei
  have li : PySem.W.Looks (model X.prog X.w) s.heap (typeLookup (.ref C) "__init__") (some (.builtin "Exception.__init__")) := PySem.W.looks_findIn I.kIn W.ini
  obtain ⟨hp, gs, dr, tk, os⟩ := s
  refine PySem.W.call_B PySem.F.excBase_Exception hT hC li (Nat.zero_le _) fun h' k g _ => ?_
  have h1 : hp.objs.size ≤ hp.objs.size + 1 := Nat.le_succ _
  generalize hp.objs.size + 1 = a at h1 g
  obtain ⟨G, g1, g2⟩ := restrict h' fun b => decide (b ≠ a)
  have ga : G.get? a = none := g2 a (by simp)
  have gk : ∀ b, b ≠ a → G.get? b = h'.get? b := fun b hb => g1 b (decide_eq_true hb)
  have below : ∀ b o, G.get? b = some o → h'.get? b = some o := fun b o z => by
    by_cases hb : b = a
    · rw [hb, ga] at z
      cases z
    · rw [← gk b hb]
      exact z
  have kG : ∀ b o, hp.get? b = some o → G.get? b = some o := fun b o z => by
    rw [gk b (Nat.ne_of_lt (Nat.lt_of_lt_of_le (Heap.lt_size z) h1))]
    exact k b o z
  have J : Inv X pins σ H { heap := G, gens := gs, drawn := dr, toks := tk, os := os } := I.kept (t' := tk) kG
  exact ⟨a, _, _, _, _, .ref C, none, rfl, J, below, ga, g, ⟨rfl, rfl⟩, rfl, rfl, I.hok.fresh h1, rfl, I.bare, raises_own W.exC W.ty, q⟩
end
end Rw

set_option Elab.async false
set_option linter.all false
set_option maxRecDepth 100000
set_option maxHeartbeats 4000000
namespace K58
open PySem PySem.Spec PyProof.Rows L2 Rw
abbrev sOr : Stmt := clsM (top 10) 2
abbrev NOr : List Str := ["self", "other", "letters"]
/-- pooled, or raised -/
def spOr (cL cO : Addr) : Sp := fun vs H Q E => ∃ (x y : Addr) (a b : Str) (ns ms : List Nat), vs = [.ref x, .ref y] ∧ Onl cL H x a ns ∧ Onl cL H y b ms ∧ heardT a = true ∧ heardT b = true ∧ a.length ≤ 10 ∧ b.length ≤ 10 ∧ ns ≠ [] ∧ ns.length ≤ 100 ∧
  (ns.length = ms.length → ∀ z u H', Pool a b z → Same H H' → Onl cL H' u z (norm (ns.zip ms)) → Q (.ref u) H') ∧ (ns.length ≠ ms.length → E (.ref cO) none H)
structure Tw (P : Program) (K : PySem.W.Frag) (mg : Str → Option Value) (cB cO cL cW fI : Addr) : Prop extends Tz P K mg cB cO cL cW fI where
  zip : mg "zip" = none
  wo : WnC K cO
  go : mg "OtherFaces" = some (.ref cO)
theorem paired_of {α β : Type} {R : α → β → Prop} : ∀ {ts : List α} {ms : List β}, ts.length = ms.length → (∀ (i : Nat) t m, ts[i]? = some t → ms[i]? = some m → R t m) → Paired R ts ms
  | [], [], _, _ => .nil
  | [], _ :: _, h, _ => nomatch h
  | _ :: _, [], h, _ => nomatch h
  | t :: ts, m :: ms, h, r => .cons (r 0 t m rfl rfl) (paired_of (Nat.succ.inj h) fun i t m h1 h2 => r (i + 1) t m h1 h2)
theorem ones_sum : ∀ {ys : List Str}, (∀ y ∈ ys, ∃ n : Nat, y = ⟨#[n]⟩) → (ys.map (·.length)).sum = ys.length
  | [], _ => rfl
  | y :: r, h => by
    obtain ⟨n, rfl⟩ := h _ List.mem_cons_self
    rw [List.map_cons, List.sum_cons, ones_sum fun z hz => h z (List.mem_cons_of_mem _ hz), List.length_cons]
    exact Nat.add_comm _ _
abbrev cI : Nat → Int := fun n => (n : Int)
theorem norm_cast (ns ms : List Nat) : norm ((ns.map cI).zip (ms.map cI)) = norm (ns.zip ms) := by
  rw [zip_map']
  refine norm_map fun x _ y _ e => ?_
  obtain ⟨x1, x2⟩ := x
  obtain ⟨y1, y2⟩ := y
  simp only [Prod.mk.injEq] at e
  rw [Int.ofNat.inj e.1, Int.ofNat.inj e.2]
theorem pd_ints : ∀ {as bs : List Int}, as.map PyData.int = bs.map PyData.int → as = bs
  | [], [], _ => rfl
  | [], _ :: _, h => by cases h
  | _ :: _, [], h => by cases h
  | a :: as, b :: bs, h => by
    rw [List.map_cons, List.map_cons] at h
    injection h with h1 h2
    injection h1 with h1
    rw [h1, pd_ints h2]
theorem all_nat (ns : List Nat) (h : ns ≠ []) : classesD (.tuple (ns.map fun (n : Nat) => .int (n : Int))) = true := by
  unfold classesD
  rw [Bool.and_eq_true]
  constructor
  · cases ns with
    | nil => exact absurd rfl h
    | cons => rfl
  · rw [List.all_eq_true]
    intro d hd
    obtain ⟨n, _, rfl⟩ := List.mem_map.mp hd
    exact decide_eq_true (Int.natCast_nonneg n)
section
variable {P : Program} {w : World} {K : PySem.W.Frag} {mg : Str → Option Value} {base : Heap} {cB cO cL cW : Addr}
theorem scOr : FnScope NOr ["self", "other"] (defScope sOr) := ⟨rfl, rfl, rfl, by decide +kernel, rfl, by decide +kernel, by decide +kernel⟩
theorem ok_or {f fO fH fI fA fN : Addr} {fd fdO fdH fdI fdA fdN : FuncData} (F : FunD K "__or__" "Onlooker.__or__" (defArgs sOr) (defBody sOr) (defScope sOr) [] [] f fd) (T : Tw P K mg cB cO cL cW fO)
    (FO : FunD K "__init__" "Onlooker.__init__" (defArgs sInit) (defBody sInit) (defScope sInit) [] [] fO fdO) (mL : mg "Onlooker" = some (.ref cL))
    (FH : FunD K "is_heard" "is_heard" (defArgs sIsH) (defBody sIsH) (defScope sIsH) [] [] fH fdH) (mH : mg "is_heard" = some (.ref fH))
    (FI : FunD K "is_integer" "is_integer" (defArgs sIsI) (defBody sIsI) (defScope sIsI) [] [] fI fdI) (mI : mg "is_integer" = some (.ref fI))
    (FA : FunD K "are_classes" "are_classes" (defArgs sAreC) (defBody sAreC) (defScope sAreC) [] [] fA fdA) (mA : mg "are_classes" = some (.ref fA))
    (FN : FunD K "put_anew" "put_anew" (defArgs sPA) (defBody sPA) (defScope sPA) [] [] fN fdN) (mN : mg "put_anew" = some (.ref fN)) :
    FnOk P w K mg base (CX P w) 5 f fd ["self", "other"] (spOr cL cO) := by
  have GO0 := ok_to0 (ok_init (P := P) (w := w) (base := base) FO T.toTx FH mH FI mI FA mA FN mN)
  have bO : Binds K fdO ["self", "letters", "classes"] [] := FO.bindsN fun _ _ _ _ _ _ us hl => match us, hl with | [_, _, _], _ => rfl
  have GN2 : FnOk P w K mg base CX0 1 fN fdN ["marks"] spPA2 := ok_PA2 FN T.toTs
  have bN : Binds K fdN ["marks"] [] := FN.bindsN fun _ _ _ _ _ _ us hl => match us, hl with | [_], _ => rfl
  refine F.ok scOr (fun vs H Q E h => ?_) (fun cdv A outer s H vs Q E hr h => ?_)
  · obtain ⟨_, _, _, _, _, _, rfl, _⟩ := h
    rfl
  obtain ⟨x, y, a, b, ns, ms, rfl, ⟨dx, p, hx, hp⟩, ⟨dy, q, hy, hq'⟩, ha, hb, la, lb, n0, nl, hok, hbad⟩ := h
  refine ⟨_, (pss_cons (ps_if (pt_cmpR op_ne (pe_callB call_len_seq (by rfl) T.len PySem.boot_len (pa_cons (pe_fld (pv 0) rfl) pa_nil)) (pe_callB call_len_seq (by rfl) T.len PySem.boot_len (pa_cons (pe_fld (pv 1) rfl) pa_nil)) (nomark _)) (pss_one (ps_raise rfl (takes_of rfl rfl rfl rfl) (pmk_n T.wo rfl T.go))) pss_nil)
      (pss_cons (ps_set (i := 2) scOr.nd rfl (by first | exact Or.inl rfl | exact Or.inr rfl) (pe_join pe_str (pe_callB (cr_sortedText rfl) (by rfl) T.sorted (by decide +kernel) (pa_cons (pe_callTy (cr_setText rfl) (by rfl) T.set (by decide +kernel) (pa_cons (pe_op op_add_str (pe_fld (pv 0) rfl) (pe_fld (pv 1) rfl)) pa_nil)) pa_nil))))
      (pss_one (ps_ret (pe_make T.mkL GO0 (hr.mono (by decide)) rfl mL bO .nil pass0 (pa_cons (pv 2) (pa_cons (pe_call GN2 (hr.mono (by decide)) rfl mN FN.kp bN .nil pass0 (pa_cons (pe_listZip (K := K) rfl rfl rfl T.zip rfl T.list (pa_cons (pe_fld (pv 0) rfl) (pa_cons (pe_fld (pv 1) rfl) pa_nil))) pa_nil)) pa_nil))))))), ?_⟩
  refine ⟨_, rfl, x, cL, dx, _, .ref p, rfl, hx, T.cl, T.n2, rfl, p, nums ns, rfl, .inr (SqT.of hp), _, rfl, y, cL, dy, _, .ref q, rfl, hy, T.cl, T.n2, rfl, q, nums ms, rfl, .inr (SqT.of hq'), rfl, _, rfl, ?_⟩
  refine ite2 (fun c => ?_) fun c => ?_
  · have c' : ns.length ≠ ms.length := fun e => by
      simp [nums, e] at c
    exact hbad c'
  have len : ns.length = ms.length := by
    have c2 : (ns.length : Int) = (ms.length : Int) := by simpa [nums] using c
    exact Int.ofNat.inj c2
  refine ⟨⟨_, rfl⟩, _, rfl, x, cL, dx, _, .str a, rfl, hx, T.cl, T.n1, rfl, _, rfl, y, cL, dy, _, .str b, rfl, hy, T.cl, T.n1, rfl, ?_⟩
  have lab : (a ++ b).length = a.length + b.length := by
    show (a.cps ++ b.cps).size = _
    rw [Array.size_append]
    rfl
  refine ⟨a, b, rfl, rfl, Nat.le_trans (by omega : _ ≤ 1000) (by decide), ?_⟩
  refine ⟨a ++ b, rfl, by omega, fun sa c hsa hc => ⟨sa, _, c, rfl, upd_same, by omega, fun ys l y1 y2 y3 y4 fl => ?_⟩⟩
  have hys : ∀ k, k ∈ ys ↔ k ∈ signs a ∨ k ∈ signs b := fun k => by
    rw [y3 k, decide_eq_true_eq, signs_app, List.mem_append]
  have pool : Pool a b (Txt.join "" ys) := ⟨ys, asc_sorted y1 y2, hys, rfl⟩
  have one : ∀ y ∈ ys, ∃ n : Nat, y = ⟨#[n]⟩ := fun y hy => ((hys y).mp hy).elim sign_one sign_one
  have e0 : ("" : Str).length = 0 := rfl
  refine ⟨"", l, ys, rfl, rfl, .inl (SqL.of upd_same), by rw [ones_sum one, e0]; omega, ?_⟩
  have s1 := (same_new (o := SetS P w sa (fun k => decide (k ∈ signs (a ++ b))) c) hsa).trans (same_new (o := .lst (ys.map V.str)) fl)
  have zl : (Txt.join "" ys).length ≤ 60 := by
    have e1 : (signs (Txt.join "" ys)).length = (Txt.join "" ys).cps.size := signs_length _
    rw [signs_join one] at e1
    show (Txt.join "" ys).cps.size ≤ 60
    omega
  have zh : heardT (Txt.join "" ys) = true := pool.heard ha hb
  refine ⟨_, rfl, _, rfl, x, cL, dx, _, .ref p, rfl, s1 _ _ hx, T.cl, T.n2, rfl, _, rfl, y, cL, dy, _, .ref q, rfl, s1 _ _ hy, T.cl, T.n2, rfl, true, p, q, nums ns, nums ms, rfl, sqT_same (s1 _ _ hp), sqT_same (s1 _ _ hq'), by simp [nums, len], fun S ts H2 s2 fS g1 g2 g3 => ?_⟩
  have lz : ((ns.map cI).zip (ms.map cI)).length = ns.length := by rw [List.length_zip, List.length_map, List.length_map, len, Nat.min_self]
  refine ⟨S, (ns.map cI).zip (ms.map cI), ts, rfl, g1, paired_of (by rw [lz, g2]; simp [nums]) fun i t m h1 h2 => ?_, by omega, fun p2 H3 s3 f3 g3 => ?_⟩
  · rw [List.getElem?_zip_eq_some, List.getElem?_map, List.getElem?_map] at h2
    obtain ⟨h3, h4⟩ := h2
    obtain ⟨n1, hn1, e1⟩ := Option.map_eq_some_iff.mp h3
    obtain ⟨n2, hn2, e2⟩ := Option.map_eq_some_iff.mp h4
    have := g3 i t (V.int m.1) (V.int m.2) h1 (by unfold nums; rw [List.getElem?_map, hn1, ← e1]; rfl) (by unfold nums; rw [List.getElem?_map, hn2, ← e2]; rfl)
    exact this
  rw [norm_cast] at g3
  have s13 := (s1.trans s2).trans s3
  refine fun x' dx' fx fdx ne => ?_
  have nl2 : (norm (ns.zip ms)).length = ns.length := by rw [norm_len, List.length_zip, len, Nat.min_self]
  have s4 : Same H3 (upd (upd H3 dx' (.own x')) x' (.ins cL dx' [])) := fun c o zz => by
    rw [upd_ne (ne_of_none zz fx), upd_ne (ne_of_none zz fdx)]
    exact zz
  refine ⟨x', dx', .str (Txt.join "" ys), .ref p2, fun _ => True, .str (Txt.join "" ys), .tuple ((norm (ns.zip ms)).map fun (n : Nat) => .int (n : Int)), rfl, upd_same, .str _, .tup trivial (s4 _ _ g3) (dq_nums _), fun _ e => by cases e; exact zl, fun ds e => by cases e; rw [List.length_map]; omega, fun msI e1 e2 e3 p3 H4 s5 f5 g5 g6 => ⟨rfl, ?_⟩, fun s d H4 eb _ _ _ => ?_⟩
  · have e4 : msI = (norm (ns.zip ms)).map cI := by
      injection e2 with e2
      refine (pd_ints ?_).symm
      rw [← e2, List.map_map]
      rfl
    rw [e4, norm_norm] at g5
    exact hok len _ x' H4 pool (fun c o zz => s5 _ _ (s4 _ _ (s13 _ _ zz)) (ne_of_none (s13 _ _ zz) fx)) ⟨dx', p3, g6, g5⟩
  · unfold badV at eb
    rw [show heardD (.str (Txt.join "" ys)) = true from zh, all_nat _ (fun e => by rw [e] at nl2; exact n0 (List.length_eq_zero_iff.mp nl2.symm))] at eb
    cases eb
end
end K58

set_option Elab.async false
set_option linter.all false
set_option maxRecDepth 100000
set_option maxHeartbeats 4000000
namespace K58
open PySem PySem.Spec PyProof.Rows L2 Rw
abbrev sSees : Stmt := clsM (top 10) 3
abbrev NSees : List Str := ["self", "other", "is_heard_too", "letter"]
def allIn (b a : Str) : Bool := (signs b).all fun k => decide (k ∈ signs a)
def spSees (cL cO : Addr) : Sp := fun vs H Q E => ∃ (x y : Addr) (a b : Str) (ns ms : List Nat), vs = [.ref x, .ref y] ∧ Onl cL H x a ns ∧ Onl cL H y b ms ∧ a.length ≤ 10 ∧ b.length ≤ 10 ∧ ns.length ≤ 100 ∧
  (ns.length = ms.length → ∀ H', Same H H' → Q (.bl (allIn b a && decide (norm (ns.zip ms) = ns))) H') ∧ (ns.length ≠ ms.length → E (.ref cO) none H)
theorem in_cps {n : Nat} {a : Str} : decide (n ∈ a.cps.toList) = decide ((⟨#[n]⟩ : Str) ∈ signs a) := by
  unfold signs
  rw [decide_eq_decide, List.mem_map]
  constructor
  · intro h
    exact ⟨n, h, rfl⟩
  · rintro ⟨m, h, e⟩
    injection e with e
    simp only [Array.mk.injEq, List.cons.injEq, and_true] at e
    exact e ▸ h
theorem eqvNumD (ns ms : List Nat) : PyData.eqv (.tuple (ns.map fun (n : Nat) => PyData.int (n : Int))) (.tuple (ms.map fun (n : Nat) => PyData.int (n : Int))) = decide (ns = ms) := by
  simp only [PyData.eqv, eqvNums]
theorem shNums (ns : List Nat) : SeqAt.shaped (.tuple (ns.map fun (n : Nat) => PyData.int (n : Int))) = true := by
  have d := deepNums ns
  unfold SeqAt.shaped
  simp only [PyData.canLay0, PyData.depth, layNums ns, Bool.true_and]
  exact decide_eq_true (by omega)
section
variable {P : Program} {w : World} {K : PySem.W.Frag} {mg : Str → Option Value} {base : Heap} {cB cO cL cW : Addr}
theorem scSees : FnScope NSees ["self", "other"] (defScope sSees) := ⟨rfl, rfl, rfl, by decide +kernel, rfl, by decide +kernel, by decide +kernel⟩
theorem ok_sees {f fO fN : Addr} {fd fdN : FuncData} (F : FunD K "sees_all_of" "Onlooker.sees_all_of" (defArgs sSees) (defBody sSees) (defScope sSees) [] [] f fd) (T : Tw P K mg cB cO cL cW fO)
    (FN : FunD K "put_anew" "put_anew" (defArgs sPA) (defBody sPA) (defScope sPA) [] [] fN fdN) (mN : mg "put_anew" = some (.ref fN)) :
    FnOk P w K mg base (CX P w) 2 f fd ["self", "other"] (spSees cL cO) := by
  have GN2 : FnOk P w K mg base CX0 1 fN fdN ["marks"] spPA2 := ok_PA2 FN T.toTs
  have bN : Binds K fdN ["marks"] [] := FN.bindsN fun _ _ _ _ _ _ us hl => match us, hl with | [_], _ => rfl
  refine F.ok scSees (fun vs H Q E h => ?_) (fun cdv A outer s H vs Q E hr h => ?_)
  · obtain ⟨_, _, _, _, _, _, rfl, _⟩ := h
    rfl
  obtain ⟨x, y, a, b, ns, ms, rfl, ⟨dx, p, hx, hp⟩, ⟨dy, q, hy, hq'⟩, la, lb, nl, hok, hbad⟩ := h
  refine ⟨_, (pss_cons (ps_if (pt_cmpR op_ne (pe_callB call_len_seq (by rfl) T.len PySem.boot_len (pa_cons (pe_fld (pv 0) rfl) pa_nil)) (pe_callB call_len_seq (by rfl) T.len PySem.boot_len (pa_cons (pe_fld (pv 1) rfl) pa_nil)) (nomark _)) (pss_one (ps_raise rfl (takes_of rfl rfl rfl rfl) (pmk_n T.wo rfl T.go))) pss_nil)
      (pss_cons (ps_set (i := 2) scSees.nd rfl (by first | exact Or.inl rfl | exact Or.inr rfl) (pe_callB (cr_allK (K := K) rfl rfl) (by rfl) T.all (by decide +kernel) (pa_cons (pe_lc (own := [("letter", 3)]) rfl scSees.nd (pi_str (pe_fld (pv 1) rfl)) (blkOk_by (N := NSees) (sc := defScope sSees) (by decide +kernel)) (fun _ _ _ _ _ => (pg_name (i := 3) scSees.nd rfl (by first | exact Or.inl rfl | exact Or.inr rfl))) (fun _ _ _ _ _ => pts_nil) (fun _ _ _ _ _ => (pe_cmpR op_in_sign (pv 3) (pe_fldK (K := K) rfl (pv 0)) (by with_unfolding_all rfl)))) pa_nil)))
      (pss_one (ps_ret (pe_and (pv 2) (pe_one (pe_cmpR (op_eqD hr.units) (pe_call GN2 (hr.mono (by decide)) rfl mN FN.kp bN .nil pass0 (pa_cons (pe_listZip (K := K) rfl rfl rfl T.zip rfl T.list (pa_cons (pe_fld (pv 0) rfl) (pa_cons (pe_fld (pv 1) rfl) pa_nil))) pa_nil)) (pe_fld (pv 0) rfl) (nomark _)))))))), ?_⟩
  refine ⟨_, rfl, x, cL, dx, _, .ref p, rfl, hx, T.cl, T.n2, rfl, p, nums ns, rfl, .inr (SqT.of hp), _, rfl, y, cL, dy, _, .ref q, rfl, hy, T.cl, T.n2, rfl, q, nums ms, rfl, .inr (SqT.of hq'), rfl, _, rfl, ?_⟩
  refine ite2 (fun c => ?_) fun c => ?_
  · have c' : ns.length ≠ ms.length := fun e => by
      simp [nums, e] at c
    exact hbad c'
  have len : ns.length = ms.length := by
    have c2 : (ns.length : Int) = (ms.length : Int) := by simpa [nums] using c
    exact Int.ofNat.inj c2
  refine ⟨_, rfl, y, cL, dy, _, .str b, rfl, hy, T.cl, T.n1, rfl, b, rfl, fun D hD => ?_⟩
  have s0 : ∀ ys, Same H (upd H D (.lst ys)) := fun ys => same_new hD
  refine lc_it (walk_str (z := b)) (fun i H' => H' = upd H D (.lst ((((signs b).take i).map fun k => decide (k ∈ signs a)).map V.bl))) rfl (fun _ _ _ _ => trivial) ?_ ?_
  · rintro i _ _ _ hi rfl ⟨rfl, c, hc, rfl⟩
    have et : (signs b).take (i + 1) = (signs b).take i ++ [⟨#[c]⟩] := by
      have : (signs b)[i]? = some ⟨#[c]⟩ := by
        unfold signs
        rw [List.getElem?_map, Array.getElem?_toList, hc]
        rfl
      rw [List.take_add_one, this]
      rfl
    refine ⟨rfl, yes_read (iteT ?_)⟩
    refine ⟨_, rfl, _, rfl, x, cL, dx, _, .str a, rfl, s0 _ _ _ hx, T.cl, T.n1, rfl, c, a, rfl, rfl, _, upd_same, small1000 ?_, ?_⟩
    · rw [List.length_map, List.length_map, List.length_take]
      have : b.cps.size ≤ 10 := lb
      omega
    · rw [upd_upd, et, List.map_append, List.map_append, in_cps]
      rfl
  · rintro _ rfl
    rw [show b.cps.size = (signs b).length from (signs_length b).symm, List.take_length]
    refine ⟨D, _, rfl, SqL.of upd_same, ?_⟩
    have ea : ((signs b).map fun k => decide (k ∈ signs a)).all id = allIn b a := by
      unfold allIn
      rw [List.all_map]
      rfl
    rw [ea]
    have s1 := s0 (((signs b).map fun k => decide (k ∈ signs a)).map V.bl)
    refine ⟨_, rfl, ?_⟩
    cases eh : allIn b a with
    | false =>
      refine ⟨_, rfl, iteF ?_⟩
      have q := hok len _ s1
      rw [eh, Bool.false_and] at q
      exact q
    | true =>
      refine ⟨_, rfl, iteT ?_⟩
      refine ⟨_, rfl, x, cL, dx, _, .ref p, rfl, s1 _ _ hx, T.cl, T.n2, rfl, _, rfl, y, cL, dy, _, .ref q, rfl, s1 _ _ hy, T.cl, T.n2, rfl, true, p, q, nums ns, nums ms, rfl, sqT_same (s1 _ _ hp), sqT_same (s1 _ _ hq'), by simp [nums, len], fun S ts H2 s2 fS g1 g2 g3 => ?_⟩
      have lz : ((ns.map cI).zip (ms.map cI)).length = ns.length := by rw [List.length_zip, List.length_map, List.length_map, len, Nat.min_self]
      refine ⟨S, (ns.map cI).zip (ms.map cI), ts, rfl, g1, paired_of (by rw [lz, g2]; simp [nums]) fun i t m h1 h2 => ?_, by omega, fun p2 H3 s3 f3 g3 => ?_⟩
      · rw [List.getElem?_zip_eq_some, List.getElem?_map, List.getElem?_map] at h2
        obtain ⟨h3, h4⟩ := h2
        obtain ⟨n1, hn1, e1⟩ := Option.map_eq_some_iff.mp h3
        obtain ⟨n2, hn2, e2⟩ := Option.map_eq_some_iff.mp h4
        have := g3 i t (V.int m.1) (V.int m.2) h1 (by unfold nums; rw [List.getElem?_map, hn1, ← e1]; rfl) (by unfold nums; rw [List.getElem?_map, hn2, ← e2]; rfl)
        exact this
      rw [norm_cast] at g3
      have s13 := (s1.trans s2).trans s3
      refine ⟨_, rfl, x, cL, dx, _, .ref p, rfl, s13 _ _ hx, T.cl, T.n2, rfl, ?_⟩
      refine ⟨.tuple ((norm (ns.zip ms)).map fun (n : Nat) => .int (n : Int)), .tuple (ns.map fun (n : Nat) => .int (n : Int)), .tup (SqT.of g3) (dpNums _), .tup (SqT.of (s13 _ _ hp)) (dpNums _), shNums _, shNums _, ?_⟩
      have q := hok len _ s13
      rw [eh, Bool.true_and] at q
      rw [eqvNumD]
      exact q
end
end K58

set_option Elab.async false
set_option linter.all false
set_option maxRecDepth 100000
set_option maxHeartbeats 4000000
/-! within a try: o.m(e, ..), o.m(k = e, ..), x op y by an own def -/
namespace Rw
open PySem PySem.Spec PyProof.Rows L2
section
variable {X : Cx} {CX : CXT} {k n : Nat} {f g C : Addr} {fd : FuncData} {ps : List Str} {sp : Sp} {E : L2.St → XK} {x m : Str} {p pos apos : Pos} {e o a b : Expr} {es : List Expr} {ta tb : TE} {t : TA}
theorem run_fnKS {pins : List (Addr × Obj)} {σ : L2.St} {H : Hp} {s : Shared} {Q : VK} {args : Args} {us : List Value} {vs : List V} (F : FnOk X.prog X.w X.K X.mg X.base CX k f fd ps sp) (hr : Room k X.A) (hb : us.length = ps.length → BindsTo s fd args (ps.zip us)) (hx : PassesAt CX X σ (E σ))
    (I : Inv X pins σ H s) (r : Vals vs us) (h : sp vs H Q (E σ)) : wpAny (model X.prog X.w) X.A (call (.ref f) args.pos args.kw) (EP X pins σ Q) X.xe s := by
  have hl : us.length = ps.length := by rw [← r.length]; exact F.len _ _ _ _ h
  refine wpAny_call (codeAny_mono (F.run X.A X.stack s H args us vs Q (E σ) hr I.env0 (hb hl) r h) fun r s' hq => ?_)
  cases r with
  | error e => exact hx pins H s e s' I hq
  | ok fl =>
    cases fl with
    | ret u => exact I.after hq
    | next => exact False.elim hq
    | brk => exact False.elim hq
    | cont => exact False.elim hq
def tMethS (C : Addr) (m : Str) (sp : Sp) (E : L2.St → XK) (ta : TE) (t : TA) : TE := fun σ H Q => ta σ H fun x H1 => ∃ a dx fs, x = .ref a ∧ H1 a = some (.ins C dx fs) ∧ fs.lookup m = none ∧
  t σ H1 fun vs H2 => sp (x :: vs) H2 Q (E σ)
/-- o.m(e, ..) -/
theorem pe_methT {pl : Sem Bool} (he : PE X o ta) (c : Cls X.K C) (hm : Meth X.K C m f) (F : FnOk X.prog X.w X.K X.mg X.base CX k f fd ps sp) (hr : Room k X.A) (hb : Binds X.K fd ps []) (hx : ∀ σ, PassesAt CX X σ (E σ)) (ha : PA X (e :: es) t)
    (hst : starEach (e :: es) X.env = (false, eval e X.env) :: starEach es X.env := by rfl) (hpl : (backTo pos (starEach es X.env)).any (·.1) = false := by rfl)
    (ht : eval (.Call (.Attribute o m apos) (e :: es) [] pos) X.env = (do
      let ov ← eval o X.env
      standAt apos.atName
      let (f, first) ← holding [ov] (getMethod ov m pl)
      callWith pos f first (backTo pos (starEach (e :: es) X.env)) (backToKw pos (keywordEach [] X.env))) := by rfl) :
    PE X (.Call (.Attribute o m apos) (e :: es) [] pos) (tMethS C m sp E ta t) := by
  refine ⟨fun pins s σ H Q I h => ?_⟩
  refine PySem.W.methodCall_KW (pl := pl) (thn (he.run pins s σ H _ I h) fun u s1 ⟨x, H1, I1, rx, a, dx, fs, ex, ea, l, q⟩ => ?_) ht
  subst ex
  obtain rfl : u = Value.ref a := rx
  refine getmeth_ok I1 ea c hm l ?_
  refine PySem.W.callWith_K (first := [.ref a]) (h₀ := X.base) I.ok.mod.kin hm.kp (thn (ha.run pos pins s1 σ H1 _ I1 q) fun us s2 ⟨vs, H2, I2, r, q2⟩ => ⟨I2.kIn, ?_⟩) hst hpl
  exact run_fnS (us := .ref a :: us) (vs := .ref a :: vs) F hr hb (hx σ) I2 (.cons rfl r) q2
variable {kws : List Keyword} {ks : List Str} {gg : List Value → List Value → List Value} {gV : List V → List V → List V}
def tMethKS (C : Addr) (m : Str) (n : Nat) (sp : Sp) (gV : List V → List V → List V) (E : L2.St → XK) (ta : TE) (t : TA) : TE := fun σ H Q => ta σ H fun x H1 => ∃ a dx fs, x = .ref a ∧ H1 a = some (.ins C dx fs) ∧ fs.lookup m = none ∧
  t σ H1 fun zs H2 => zs.length = n ∧ sp (gV [x] zs) H2 Q (E σ)
/-- o.m(k = e, ..) -/
theorem pe_methKT {pl : Sem Bool} (he : PE X o ta) (c : Cls X.K C) (hm : Meth X.K C m f) (F : FnOk X.prog X.w X.K X.mg X.base CX k f fd ps sp) (hr : Room k X.A) (hb : KBn X.K fd ps 1 ks gg gV) (hx : ∀ σ, PassesAt CX X σ (E σ)) (hkw : PK X kws t)
    (hall : (backToKw pos (keywordEach kws X.env)).all (·.1.isSome) = true := by rfl) (hks : (backToKw pos (keywordEach kws X.env)).filterMap (·.1) = ks := by rfl)
    (hpl : ((backTo pos (starEach [] X.env)).any (·.1) || (backToKw pos (keywordEach kws X.env)).any (·.1.isNone)) = false := by rfl)
    (ht : eval (.Call (.Attribute o m apos) [] kws pos) X.env = (do
      let ov ← eval o X.env
      standAt apos.atName
      let (f, first) ← holding [ov] (getMethod ov m pl)
      callWith pos f first (backTo pos (starEach [] X.env)) (backToKw pos (keywordEach kws X.env))) := by rfl) :
    PE X (.Call (.Attribute o m apos) [] kws pos) (tMethKS C m ks.length sp gV E ta t) := by
  refine ⟨fun pins s σ H Q I h => ?_⟩
  refine PySem.W.methodCall_KW (pl := pl) (thn (he.run pins s σ H _ I h) fun u s1 ⟨x, H1, I1, rx, a, dx, fs, ex, ea, l, q⟩ => ?_) ht
  subst ex
  obtain rfl : u = Value.ref a := rx
  refine getmeth_ok I1 ea c hm l ?_
  refine PySem.W.callWith_KW0 (first := [.ref a]) (h₀ := X.base) I.ok.mod.kin hm.kp hall (thn (hkw.run pos pins s1 σ H1 _ I1 q) fun ws s2 ⟨zs, H2, I2, r, l2, q2⟩ => ⟨I2.kIn, ?_⟩) hpl
  rw [hks]
  exact run_fnKS (args := ⟨[.ref a], ks.zip ws⟩) (us := gg [.ref a] ws) (vs := gV [.ref a] zs) F hr (fun hl => hb.to s2 [.ref a] ws I2.kIn rfl (r.length.symm.trans l2)) (hx σ) I2 (hb.rel (.cons rfl .nil) r) q2
/-- x op y of two instances of one class, by its own def, within a try -/
theorem pe_binOwn {op : Operator} (hs : PySem.W.findIn X.K (.ref C) (PySem.dunder op.info.2) = some (some (.ref g))) (hc : PySem.W.selfFirst X.K C = true) (hf : PySem.W.isFn X.K (.ref g) = true) (F : FnOk X.prog X.w X.K X.mg X.base CX k g fd ps sp) (hb : Binds X.K fd ps [])
    (hr : Room k X.A) (hx : ∀ σ, PassesAt CX X σ (E σ)) (ha : PE X a ta) (hbb : PE X b tb) : PE X (.BinOp a op b pos) (fun σ H Q => ta σ H fun x H1 => tb σ H1 fun y H2 => rOwnI C sp (E σ) x y H2 Q) := by
  refine ⟨fun pins s σ H Q I h => ?_⟩
  refine wpAny_BinOp (binT ha hbb I h fun v u s2 x y H2 I2 rx ry q => ?_)
  obtain ⟨p1, dx, vs, p2, dy, ws, rfl, rfl, hA, hB, q⟩ := q
  cases (show v = Value.ref p1 from rx)
  cases (show u = Value.ref p2 from ry)
  obtain ⟨mA, J, _⟩ := ins_get I2.hok hA
  obtain ⟨mB, J', _⟩ := ins_get I2.hok hB
  obtain ⟨od, J, _⟩ := J.look
  obtain ⟨od', J', _⟩ := J'.look
  obtain ⟨m, hF⟩ := I2.fr
  refine PySem.W.binop_K (op := op) hF I2.ok.mod.kin J J'.type hc hs hf ?_
  refine wpAny_mono (run_fnS (us := [.ref p1, .ref p2]) (vs := [.ref p1, .ref p2]) F hr hb (hx σ) I2 (.cons rfl (.cons rfl .nil)) q) (fun w s' z => ?_) fun _ _ x => x
  obtain ⟨z', H', I', rz, qz⟩ := z
  exact SlX.cmpback rz ⟨z', H', I', rz, qz⟩
end
end Rw

set_option Elab.async false
set_option linter.all false
set_option maxRecDepth 100000
set_option maxHeartbeats 4000000
namespace K58
open PySem PySem.Spec PyProof.Rows L2 Rw
abbrev sPool : Stmt := top 25
abbrev NPool : List Str := ["near", "far", "found", "both", "e"]
def spPool (cL : Addr) : Sp := fun vs H Q _ => ∃ (x y : Addr) (a b : Str) (ns ms : List Nat), vs = [.ref x, .ref y] ∧ Onl cL H x a ns ∧ Onl cL H y b ms ∧ heardT a = true ∧ heardT b = true ∧ a.length ≤ 10 ∧ b.length ≤ 10 ∧ ns ≠ [] ∧ ns.length ≤ 100 ∧
  (ns.length = ms.length → ∀ z p l s H', Pool a b z → s = (allIn b a && decide (norm (ns.zip ms) = ns)) → Same H H' → H' p = some (.tup (nums (norm (ns.zip ms)))) → H' l = some (.lst [.str z, .ref p, .bl s, .bl s]) → Q (.ref l) H') ∧
  (ns.length ≠ ms.length → ∀ l H', Same H H' → H' l = some (.lst [.str "faces", .str "faces"]) → Q (.ref l) H')
structure Tv (P : Program) (K : PySem.W.Frag) (mg : Str → Option Value) (cB cO cL cW fI fR fS : Addr) : Prop extends Tw P K mg cB cO cL cW fI where
  orF : PySem.W.findIn K (.ref cL) "__or__" = some (some (.ref fR))
  orS : PySem.W.selfFirst K cL = true
  orI : PySem.W.isFn K (.ref fR) = true
  meS : Meth K cL "sees_all_of" fS
  kitO : PySem.W.kitOne K (.ref cO) (.ref cW) = some true
  exO : PySem.W.exmOne K (.ref cO) (.ref cO) = some true
section
variable {P : Program} {w : World} {K : PySem.W.Frag} {mg : Str → Option Value} {base : Heap} {cB cO cL cW : Addr}
theorem Onl.grow {H H' : Hp} {x : Addr} {a : Str} {ns : List Nat} (h : Onl cL H x a ns) (s : Same H H') : Onl cL H' x a ns := by
  obtain ⟨dx, p, h1, h2⟩ := h
  exact ⟨dx, p, s _ _ h1, s _ _ h2⟩
theorem scPool : FnScope NPool ["near", "far"] (defScope sPool) := ⟨rfl, rfl, rfl, by decide +kernel, rfl, by decide +kernel, by decide +kernel⟩
theorem ok_pool {f fO fR fS : Addr} {fd fdR fdS : FuncData} (F : FunD K "_law_pooled" "_law_pooled" (defArgs sPool) (defBody sPool) (defScope sPool) [] [] f fd) (T : Tv P K mg cB cO cL cW fO fR fS)
    (FR : FunD K "__or__" "Onlooker.__or__" (defArgs sOr) (defBody sOr) (defScope sOr) [] [] fR fdR) (FS : FunD K "sees_all_of" "Onlooker.sees_all_of" (defArgs sSees) (defBody sSees) (defScope sSees) [] [] fS fdS)
    (GR : FnOk P w K mg base (CX P w) 5 fR fdR ["self", "other"] (spOr cL cO)) (GS : FnOk P w K mg base (CX P w) 2 fS fdS ["self", "other"] (spSees cL cO)) :
    FnOk P w K mg base CX0 6 f fd ["near", "far"] (spPool cL) := by
  have bR : Binds K fdR ["self", "other"] [] := FR.bindsN fun _ _ _ _ _ _ us hl => match us, hl with | [_, _], _ => rfl
  have bS : Binds K fdS ["self", "other"] [] := FS.bindsN fun _ _ _ _ _ _ us hl => match us, hl with | [_, _], _ => rfl
  have kS : KBn K fdS ["self", "other"] 1 ["other"] (fun us ws => us ++ ws) (fun vs zs => vs ++ zs) := kb_of FS (fun r1 r2 => r1.append r2) fun _ _ _ _ _ _ us ws l1 l2 => match us, ws, l1, l2 with | [_], [_], _, _ => rfl
  refine ok_to0 (sp := spPool cL) (F.ok scPool (fun vs H Q E h => ?_) (fun cdv A outer s H vs Q E hr h => ?_))
  · obtain ⟨_, _, _, _, _, _, rfl, _⟩ := h
    rfl
  obtain ⟨x, y, a, b, ns, ms, rfl, hx, hy, ha, hb, la, lb, n0, nl, hok, hbad⟩ := h
  refine ⟨_, pss_cons (ps_set (i := 2) scPool.nd rfl (by first | exact Or.inl rfl | exact Or.inr rfl) (pe_lst pa_nil))
    (pss_cons (ps_try_as (i := 4) rfl rfl scPool.nd rfl rfl ⟨rfl, rfl, .inl T.go⟩ (takes_of rfl rfl rfl rfl)
      (fun W pn xe tk pa => pss_cons (ps_set (i := 3) scPool.nd rfl (by first | exact Or.inl rfl | exact Or.inr rfl) (pe_binOwn T.orF T.orS T.orI GR bR (hr.mono (by decide)) (L2.passAt tk) (pv 0) (pv 1)))
        (pss_one (ps_expr (pe_bmK (K := K) rfl PySem.F.plainAttrs_list PySem.F.slot_list_extend PySem.F.type_list_extend mt_extend (pv 2) (pa_cons (pe_lst (pa_cons (pe_fldK (K := K) rfl (pv 3)) (pa_cons (pe_fldK (K := K) rfl (pv 3)) pa_nil))) pa_nil)))))
      (fun a oe cls d' pn hz hf => pss_one (ps_expr (pe_bmK (K := K) rfl PySem.F.plainAttrs_list PySem.F.slot_list_append PySem.F.type_list_append mt_append (pv 2) (pa_cons (pe_ifExp (pt_val
        (pe_callB (call_isH2 T.wk hz hf) (by rfl) T.isin PyProof.Rows.boot_isinstance (pa_cons (pv 4) (pa_cons (pe_glob rfl T.gw (rel_ref _)) pa_nil)))) pe_str pe_str) pa_nil)))))
    (pss_cons (ps_try_only rfl rfl ⟨rfl, rfl, .inl T.go⟩ (takes_of rfl rfl rfl rfl)
      (fun W pn xe tk pa => pss_one (ps_expr (pe_bmK (K := K) rfl PySem.F.plainAttrs_list PySem.F.slot_list_extend PySem.F.type_list_extend mt_extend (pv 2) (pa_cons (pe_lst
        (pa_cons (pe_methT (pv 0) T.cl T.meS GS (hr.mono (by decide)) bS (L2.passAt tk) (pa_cons (pv 1) pa_nil)) (pa_cons (pe_methKT (pv 0) T.cl T.meS GS (hr.mono (by decide)) kS (L2.passAt tk) (pk_cons (pv 1) pk_nil)) pa_nil))) pa_nil))))
      (fun a oe cls d' pn hz hf => pss_one (ps_expr (pe_bmK (K := K) rfl PySem.F.plainAttrs_list PySem.F.slot_list_append PySem.F.type_list_append mt_append (pv 2) (pa_cons pe_str pa_nil)))))
    (pss_one (ps_ret (pv 2))))), ?_⟩
  refine ⟨Nat.zero_le _, fun l fl => ?_⟩
  have s0 : ∀ ys, Same H (upd H l (.lst ys)) := fun ys => same_new fl
  have ox := hx.grow (s0 [])
  have oy := hy.grow (s0 [])
  obtain ⟨dx, p, gx, gp⟩ := id ox
  obtain ⟨dy, q, gy, gq⟩ := id oy
  have gl : upd H l (.lst []) l = some (.lst []) := upd_same
  have sH := s0 []
  clear s0
  generalize upd H l (.lst []) = H1 at *
  by_cases len : ns.length = ms.length
  · refine ⟨_, rfl, _, rfl, x, dx, _, y, dy, _, rfl, rfl, gx, gy, x, y, a, b, ns, ms, rfl, ox, oy, ha, hb, la, lb, n0, nl, fun _ z u H2 pool s2 ou => ?_, fun c => absurd len c⟩
    obtain ⟨du, pu, gu, gpu⟩ := ou
    refine ⟨_, rfl, .inl ⟨rfl, _, SqL.of (s2 _ _ gl)⟩, _, rfl, u, cL, du, _, .str z, rfl, gu, T.cl, T.n1, rfl, _, rfl, u, cL, du, _, .ref pu, rfl, gu, T.cl, T.n2, rfl, (by show 2 ≤ sizeLine; decide), fun l2 fl2 => ?_⟩
    have s3 := s2.trans (same_new (o := .lst [.str z, .ref pu]) fl2)
    refine ⟨l, l2, [], _, rfl, rfl, s3 _ _ gl, upd_same, (by show 0 + 2 ≤ sizeLine; decide), ?_⟩
    have s4 : Same H (upd (upd H2 l2 (.lst [.str z, .ref pu])) l (.lst ([] ++ [.str z, .ref pu]))) := fun c o zz => by
      rw [upd_ne (ne_of_none zz fl)]
      exact s3 _ _ (sH _ _ zz)
    have gl4 : upd (upd H2 l2 (.lst [.str z, .ref pu])) l (.lst ([] ++ [.str z, .ref pu])) l = some (.lst [.str z, .ref pu]) := upd_same
    have gp4 : upd (upd H2 l2 (.lst [.str z, .ref pu])) l (.lst ([] ++ [.str z, .ref pu])) pu = some (.tup (nums (norm (ns.zip ms)))) := by
      have npl : pu ≠ l := ne_of gpu (s2 _ _ gl) fun z => by cases z
      rw [upd_ne npl]
      exact same_new fl2 _ _ gpu
    generalize upd (upd H2 l2 (.lst [.str z, .ref pu])) l (.lst ([] ++ [.str z, .ref pu])) = H4 at *
    have ox4 := hx.grow s4
    have oy4 := hy.grow s4
    obtain ⟨dx4, p4, gx4, _⟩ := id ox4
    refine ⟨_, rfl, .inl ⟨rfl, _, SqL.of gl4⟩, _, rfl, x, dx4, _, rfl, gx4, rfl, _, rfl, x, y, a, b, ns, ms, rfl, ox4, oy4, la, lb, Nat.le_trans nl (by decide), fun _ H5 s5 => ?_, fun c => absurd len c⟩
    refine ⟨_, rfl, x, dx4, _, rfl, s5 _ _ gx4, rfl, _, rfl, rfl, x, y, a, b, ns, ms, rfl, ox4.grow s5, oy4.grow s5, la, lb, nl, fun _ H6 s6 => ?_, fun c => absurd len c⟩
    have s46 := s5.trans s6
    refine ⟨(by show 2 ≤ sizeLine; decide), fun l3 fl3 => ?_⟩
    have s7 := s46.trans (same_new (o := .lst [.bl (allIn b a && decide (norm (ns.zip ms) = ns)), .bl (allIn b a && decide (norm (ns.zip ms) = ns))]) fl3)
    refine ⟨l, l3, _, _, rfl, rfl, s7 _ _ gl4, upd_same, (by show 2 + 2 ≤ sizeLine; decide), ?_⟩
    refine ⟨_, rfl, ?_⟩
    refine hok len z pu l _ _ pool rfl (fun c o zz => ?_) ?_ upd_same
    · rw [upd_ne (ne_of_none zz fl)]
      exact s7 _ _ (s4 _ _ zz)
    · have npl : pu ≠ l := ne_of gp4 gl4 fun z => by cases z
      rw [upd_ne npl]
      exact s7 _ _ gp4
  · refine ⟨_, rfl, _, rfl, x, dx, _, y, dy, _, rfl, rfl, gx, gy, x, y, a, b, ns, ms, rfl, ox, oy, ha, hb, la, lb, n0, nl, fun c => absurd c len, fun _ => ?_⟩
    refine ⟨true, T.exO, fun _ ae fae => ?_, fun z => nomatch z⟩
    refine ⟨_, rfl, .inl ⟨rfl, _, SqL.of gl⟩, ?_⟩
    refine ⟨_, rfl, cO, _, _, true, rfl, T.wo.toXcC, rfl, fun dd e => (nomatch e), .own _, T.kitO, _, rfl, iteT ?_⟩
    refine ⟨l, [], _, rfl, rfl, gl, (by decide), ?_⟩
    have s4 : Same H (upd H1 l (.lst ([] ++ [.str "faces"]))) := fun c o zz => by
      rw [upd_ne (ne_of_none zz fl)]
      exact sH _ _ zz
    have gl4 : upd H1 l (.lst ([] ++ [.str "faces"])) l = some (.lst [.str "faces"]) := upd_same
    generalize upd H1 l (.lst ([] ++ [.str "faces"])) = H4 at *
    have ox4 := hx.grow s4
    have oy4 := hy.grow s4
    obtain ⟨dx4, p4, gx4, _⟩ := id ox4
    refine ⟨_, rfl, .inl ⟨rfl, _, SqL.of gl4⟩, _, rfl, x, dx4, _, rfl, gx4, rfl, _, rfl, x, y, a, b, ns, ms, rfl, ox4, oy4, la, lb, Nat.le_trans nl (by decide), fun c => absurd c len, fun _ => ?_⟩
    refine ⟨true, T.exO, fun _ ae2 fae2 => ?_, fun z => nomatch z⟩
    refine ⟨_, rfl, .inl ⟨rfl, _, SqL.of gl4⟩, l, _, _, rfl, rfl, gl4, (by decide), ?_⟩
    refine ⟨_, rfl, ?_⟩
    refine hbad len l _ (fun c o zz => ?_) upd_same
    rw [upd_ne (ne_of_none zz fl)]
    exact s4 _ _ zz
end
end K58

set_option Elab.async false
set_option linter.all false
/-! readings, one head at a time (for lemmas that tell what a part of a text reads as) -/
namespace Rw
open PySem PySem.Spec PyProof.Rows L2
theorem rd_seq {t u : TS} {D : Ends} {σ : L2.St} {H : Hp} (h : t { D with nx := u D } σ H) : tSeq t u D σ H := h
theorem rd_next {D : Ends} {σ : L2.St} {H : Hp} (h : D.nx σ H) : tNext D σ H := h
theorem rd_asg {te : TE} {g : TG} {D : Ends} {σ : L2.St} {H : Hp} (h : te σ H fun x H1 => g x σ H1 D.nx) : tAsg te g D σ H := h
theorem rd_tup {t : TA} {σ : L2.St} {H : Hp} {Q : VK} (h : t σ H fun xs H1 => xs.length ≤ sizeLine ∧ ∀ p, H1 p = none → Q (.ref p) (upd H1 p (.tup xs))) : tTup t σ H Q := h
theorem rd_lst {t : TA} {σ : L2.St} {H : Hp} {Q : VK} (h : t σ H fun xs H1 => xs.length ≤ sizeLine ∧ ∀ p, H1 p = none → Q (.ref p) (upd H1 p (.lst xs))) : tLst t σ H Q := h
theorem rd_cons {ta : TE} {tr : TA} {σ : L2.St} {H : Hp} {Q : List V → Hp → Prop} (h : ta σ H fun x H1 => tr σ H1 fun xs H2 => Q (x :: xs) H2) : tCons ta tr σ H Q := h
theorem rd_op {r : R2} {ta tb : TE} {σ : L2.St} {H : Hp} {Q : VK} (h : ta σ H fun x H1 => tb σ H1 fun y H2 => r x y H2 Q) : tOp r ta tb σ H Q := h
theorem rd_ret {te : TE} {D : Ends} {σ : L2.St} {H : Hp} (h : te σ H D.rt) : tRet te D σ H := h
theorem rd_drop {te : TE} {D : Ends} {σ : L2.St} {H : Hp} (h : te σ H fun _ H1 => D.nx σ H1) : tDrop te D σ H := h
theorem rd_ifs {c : TT} {t u : TS} {D : Ends} {σ : L2.St} {H : Hp} (h : c σ H fun b H1 => if b = true then t D σ H1 else u D σ H1) : tIfS c t u D σ H := h
theorem rd_or {t u : TT} {σ : L2.St} {H : Hp} {Q : Bool → Hp → Prop} (h : t σ H fun c H1 => if c = true then Q true H1 else u σ H1 Q) : tOr t u σ H Q := h
theorem rd_and {t u : TT} {σ : L2.St} {H : Hp} {Q : Bool → Hp → Prop} (h : t σ H fun c H1 => if c = true then u σ H1 Q else Q false H1) : tAnd t u σ H Q := h
theorem rd_not {t : TT} {σ : L2.St} {H : Hp} {Q : Bool → Hp → Prop} (h : t σ H fun c H1 => Q (!c) H1) : tNot t σ H Q := h
theorem rd_test {t : TE} {σ : L2.St} {H : Hp} {Q : Bool → Hp → Prop} (h : t σ H fun x H' => ∃ k, x = .bl k ∧ Q k H') : tTest t σ H Q := h
theorem rd_b {t : TE} {σ : L2.St} {H : Hp} {Q : Bool → Hp → Prop} (h : t σ H fun x H1 => ∃ c, x = .bl c ∧ Q c H1) : tB t σ H Q := h
theorem rd_cb {r : List V → Hp → VK → Prop} {t : TA} {σ : L2.St} {H : Hp} {Q : VK} (h : t σ H fun vs H1 => r vs H1 Q) : tCB r t σ H Q := h
theorem rd_par {i j : Nat} {ta : TA} {D : Ends} {σ : L2.St} {H : Hp} (h : ta σ H fun vs H1 => ∃ v w, vs = [v, w] ∧ D.nx ((σ.set i (some v)).set j (some w)) H1) : tPar i j ta D σ H := h
theorem rd_andV {ta tb : TE} {σ : L2.St} {H : Hp} {Q : VK} (h : ta σ H fun x H1 => ∃ c, x = .bl c ∧ if c = true then tb σ H1 Q else Q (.bl false) H1) : tAndV ta tb σ H Q := h
theorem rd_orV {ta tb : TE} {σ : L2.St} {H : Hp} {Q : VK} (h : ta σ H fun x H1 => ∃ c, x = .bl c ∧ if c = true then Q (.bl true) H1 else tb σ H1 Q) : tOrV ta tb σ H Q := h
theorem rd_notV {ta : TE} {σ : L2.St} {H : Hp} {Q : VK} (h : ta σ H fun x H1 => ∃ c, x = .bl c ∧ Q (.bl (!c)) H1) : tNotV ta σ H Q := h
theorem rd_if {t : TT} {ta tb : TE} {σ : L2.St} {H : Hp} {Q : VK} (h : t σ H fun c H1 => if c = true then ta σ H1 Q else tb σ H1 Q) : tIf t ta tb σ H Q := h
theorem rd_call {sp : Sp} {dvs : List V} {E : XK} {t : TA} {σ : L2.St} {H : Hp} {Q : VK} (h : t σ H fun vs H1 => sp (vs ++ dvs) H1 Q E) : tCall sp dvs E t σ H Q := h
theorem rd_var {i : Nat} {v : V} {σ : L2.St} {H : Hp} {Q : VK} (hi : σ[i]? = some (some v)) (h : Q v H) : tVar i σ H Q := ⟨v, hi, h⟩
end Rw

set_option Elab.async false
set_option linter.all false
set_option maxRecDepth 100000
set_option maxHeartbeats 4000000
/-! rules whose reading names the written part K: for comprehensions and try bodies, where X is not to be found by unification -/
namespace Rw
open PySem PySem.Spec PyProof.Rows L2
section
variable {X : Cx} {K : PySem.W.Frag}
theorem ix_listK (hK : X.K = K) : IxR X (rIxL K) := by subst hK; exact ix_list
theorem ix_tupK (hK : X.K = K) : IxR X (rIxT K) := by subst hK; exact ix_tup
theorem op_eqDK (hK : X.K = K) (hu : X.A.units + 64 < cLine) : OpR X (compareOp .Eq) (rEqD K) := by subst hK; exact op_eqD hu
theorem op_neDK (hK : X.K = K) (hu : X.A.units + 64 < cLine) : OpR X (compareOp .NotEq) (rNeD K) := by subst hK; exact op_neD hu
theorem op_eqOwnDK {CX : CXT} {C g : Addr} {n : Nat} {sp : Sp} {E : XK} (hK : X.K = K) (hs : PySem.W.findIn K (.ref C) "__eq__" = some (some (.ref g))) (hf : PySem.W.isFn K (.ref g) = true) (F : FnR X.prog X.w X.K X.mg X.base CX n g sp)
    (hr : Room n X.A) (hx : Passes CX X E) : OpR X (compareOp .Eq) (rOwnD K C sp E) := by subst hK; exact op_eqOwnD hs hf F hr hx
theorem op_eqOwnK {CX : CXT} {C g : Addr} {n : Nat} {sp : Sp} {E : XK} (hK : X.K = K) (hs : PySem.W.findIn K (.ref C) "__eq__" = some (some (.ref g))) (hf : PySem.W.isFn K (.ref g) = true) (F : FnR X.prog X.w X.K X.mg X.base CX n g sp)
    (hr : Room n X.A) (hx : Passes CX X E) : OpR X (compareOp .Eq) (rOwnI C sp E) := by subst hK; exact op_eqOwn hs hf F hr hx
theorem call_isK (hK : X.K = K) : CallR X (.builtin "isinstance") (rIsi K) := by subst hK; exact call_isi
theorem cr_allKK (hK : X.K = K) (hc : X.calm = true) : CallR X (.builtin "all") (rAll K) := by subst hK; exact cr_all hc
theorem call_lenK (hK : X.K = K) : CallR X (.builtin "len") (fun xs H Q => ∃ p ys, xs = [.ref p] ∧ (SqL K H p ys ∨ SqT K H p ys) ∧ Q (.int ys.length) H) := by subst hK; exact call_len_seq
end
end Rw

set_option Elab.async false
set_option linter.all false
set_option maxRecDepth 100000
set_option maxHeartbeats 4000000
namespace K58
open PySem PySem.Spec PyProof.Rows L2 Rw
abbrev sPart : Stmt := top 15
abbrev NPart : List Str := ["deck", "some", "often", "it"]
theorem Deck.up {D L l : Addr} {m : Int} {H : Hp} {o : HO} (d : Deck H D L m) (h1 : l ≠ D) (h2 : l ≠ L) : Deck (upd H l o) D L m := by
  obtain ⟨cs, a, b, g1, g2, g3⟩ := d.ex
  exact ⟨cs, a, b, by rw [upd_ne h1.symm]; exact g1, by rw [upd_ne h2.symm]; exact g2, g3⟩
/-- all that can be left of a list -/
def subsL {α : Type} : List α → List (List α)
  | [] => [[]]
  | a :: r => subsL r ++ (subsL r).map fun l => a :: l
theorem sub_skip {α : Type} : ∀ {l : List α} {a : α} {ys : List α}, ys ∈ subsL l → ys ∈ subsL (l ++ [a])
  | [], a, ys, h => by
    rw [List.mem_singleton.mp h]
    simp [subsL]
  | b :: r, a, ys, h => by
    rcases List.mem_append.mp h with z | z
    · exact List.mem_append.mpr (.inl (sub_skip z))
    · obtain ⟨l, h1, rfl⟩ := List.mem_map.mp z
      exact List.mem_append.mpr (.inr (List.mem_map.mpr ⟨l, sub_skip h1, rfl⟩))
theorem sub_more {α : Type} : ∀ {l : List α} {a : α} {ys : List α}, ys ∈ subsL l → ys ++ [a] ∈ subsL (l ++ [a])
  | [], a, ys, h => by
    rw [List.mem_singleton.mp h]
    simp [subsL]
  | b :: r, a, ys, h => by
    rcases List.mem_append.mp h with z | z
    · exact List.mem_append.mpr (.inl (sub_more z))
    · obtain ⟨l, h1, rfl⟩ := List.mem_map.mp z
      exact List.mem_append.mpr (.inr (List.mem_map.mpr ⟨l ++ [a], sub_more h1, rfl⟩))
def spPart : Sp := fun vs H Q _ => ∃ (D L : Addr) (n o : Int) (x : Str), vs = [.ref D, .str x, .int o] ∧ Deck H D L n ∧ n + x.length ≤ 1000000 ∧ x.length ≤ 60 ∧ 1 ≤ o ∧ o ≤ 1000000 ∧
  ∀ p (ys : List Str) H', ys.length ≤ x.length → ys ∈ subsL (signs x) → Deck H' D L (n + x.length) → Kp D L H H' → H p = none → H' p = some (.tup (ys.map .str)) → Q (.ref p) H'
section
variable {P : Program} {w : World} {K : PySem.W.Frag} {mg : Str → Option Value} {base : Heap}
theorem scPart : FnScope NPart ["deck", "some", "often"] (defScope sPart) := ⟨rfl, rfl, rfl, by decide +kernel, rfl, by decide +kernel, by decide +kernel⟩
theorem ok_part {f fD : Addr} {fd fdD : FuncData} (F : FunD K "_law_part" "_law_part" (defArgs sPart) (defBody sPart) (defScope sPart) [] [] f fd) (T : Ts K mg)
    (FD : FunD K "_law_draw" "_law_draw" (defArgs sDraw) (defBody sDraw) (defScope sDraw) [] [] fD fdD) (mD : mg "_law_draw" = some (.ref fD)) : FnOk P w K mg base CX0 2 f fd ["deck", "some", "often"] spPart := by
  have GD : FnOk P w K mg base CX0 1 fD fdD ["deck", "below"] spDraw := ok_draw FD T.toTxt
  have bD : Binds K fdD ["deck", "below"] [] := FD.bindsN fun _ _ _ _ _ _ us hl => match us, hl with | [_, _], _ => rfl
  refine F.ok scPart (fun vs H Q E h => ?_) (fun cdv A outer s H vs Q E hr h => ?_)
  · obtain ⟨_, _, _, _, _, rfl, _⟩ := h
    rfl
  obtain ⟨D, L, n, o, x, rfl, hd, hn, hx, ho1, ho2, hq⟩ := h
  refine ⟨_, PSs.nox (pss_one (ps_ret (pe_callTy call_tuple_of (by rfl) T.tuple (by decide +kernel) (pa_cons (pe_lc (own := [("it", 3)]) rfl scPart.nd (pi_str (pv 1)) (blkOk_by (N := NPart) (sc := defScope sPart) (by decide +kernel)) (fun _ _ _ _ _ => (pg_name (i := 3) scPart.nd rfl (by first | exact Or.inl rfl | exact Or.inr rfl))) (fun _ _ _ _ _ => (pts_one (pt_cmpR op_eq (pe_call GD (hr.mono (by decide)) rfl mD FD.kp bD .nil pass0 (pa_cons (pv 0) (pa_cons (pv 2) pa_nil))) pe_int (nomark _)))) (fun _ _ _ _ _ => (pv 3))) pa_nil)))), ?_⟩
  refine ⟨_, rfl, x, rfl, fun l fl => ?_⟩
  obtain ⟨⟨oD, hD⟩, ⟨oL, hL⟩⟩ := hd.two
  have nD : l ≠ D := fun e => by rw [e, hD] at fl; cases fl
  have nL : l ≠ L := fun e => by rw [e, hL] at fl; cases fl
  refine lc_it (walk_str (z := x)) (fun i H' => ∃ (ys : List Str) (m : Int), H' l = some (.lst (ys.map .str)) ∧ ys.length ≤ i ∧ ys ∈ subsL ((signs x).take i) ∧ Deck H' D L m ∧ m ≤ n + i ∧ Kp D L H H') ?_ (fun _ _ _ _ => trivial) ?_ ?_
  · exact ⟨[], n, upd_same, Nat.le_refl _, List.mem_singleton.mpr rfl, hd.up nD nL, (by simp), kp_same (same_new fl)⟩
  · rintro i _ H1 _ hi ⟨ys, m, g1, g2, g3, g4, g5, g6⟩ ⟨rfl, c, hc, rfl⟩
    have hi' : i < x.length := hi
    have et : (signs x).take (i + 1) = (signs x).take i ++ [⟨#[c]⟩] := by
      have : (signs x)[i]? = some ⟨#[c]⟩ := by
        unfold signs
        rw [List.getElem?_map, Array.getElem?_toList, hc]
        rfl
      rw [List.take_add_one, this]
      rfl
    refine ⟨rfl, _, rfl, _, rfl, D, L, m, o, rfl, g4, by omega, ho1, ho2, fun r H2 r0 r1 d2 k2 => ⟨rfl, _, rfl, ?_⟩⟩
    have gl := k2 _ _ g1 nD nL
    refine ite2 (fun _ => ?_) fun _ => ?_
    · refine ⟨_, rfl, _, gl, small1000 (by rw [List.length_map]; omega), ys ++ [⟨#[c]⟩], m + 1, by rw [upd_same, List.map_append]; rfl, by simp; omega, by rw [et]; exact sub_more g3, d2.up nD nL, by omega, fun a o z h1 h2 => ?_⟩
      · rw [upd_ne (ne_of_none z fl)]
        exact k2 _ _ (g6 a o z h1 h2) h1 h2
    · exact ⟨ys, m + 1, gl, by omega, by rw [et]; exact sub_skip g3, d2, by omega, g6.trans k2⟩
  · rintro H1 ⟨ys, m, g1, g2, g3, g4, g5, g6⟩
    rw [show (signs x).take x.cps.size = signs x by rw [← show (signs x).length = x.cps.size from signs_length x, List.take_length]] at g3
    refine ⟨l, _, rfl, .inl ⟨SqL.of g1, fun p hp => ?_⟩⟩
    exact hq p ys _ g2 g3 ((g4.le g5).same (same_new hp)) (g6.trans (kp_same (same_new hp))) (g6.free g4 hp) upd_same
end
end K58

set_option Elab.async false
set_option linter.all false
set_option maxRecDepth 100000
set_option maxHeartbeats 4000000
namespace K58
open PySem PySem.Spec PyProof.Rows L2 Rw
abbrev sOdd : Stmt := top 16
abbrev NOdd : List Str := ["deck", "it", "some"]
/-- what may be handed to _law_right -/
structure Fair (d : PyData) : Prop where
  show_ : Show 10 1000 d
  txt : ∀ z, d = .str z → z.length ≤ 60
  tup : ∀ ds, d = .tuple ds → ds.length ≤ 1000
def okD (D L : Addr) : Addr → Prop := fun a => a ≠ D ∧ a ≠ L
/-- the texts that _law_drawn can draw -/
def subs : List Str := (subsL (signs "abcdez")).map fun l => Txt.join "" l
/-- what _law_odd is handed -/
inductive Seed : PyData → Prop
  | txt (x : Str) (h : x ∈ subs) : Seed (.str x)
  | int (i : Int) (h0 : 0 ≤ i) (h1 : i ≤ 100) : Seed (.int i)
  | tup (ms : List Nat) (h : ms.length ≤ 8) (hm : ∀ m ∈ ms, m ≤ 100) : Seed (.tuple (ms.map fun (n : Nat) => .int (n : Int)))
def spOdd : Sp := fun vs H Q _ => ∃ (D L : Addr) (n : Int) (v : V) (d : PyData), vs = [.ref D, v] ∧ Deck H D L n ∧ n ≤ 900000 ∧ Dq H (okD D L) v d ∧ Seed d ∧
  ∀ u e H', Fair e → Dq H' (okD D L) u e → Deck H' D L (n + 1) → Kp D L H H' → Q u H'
def fairB (d : PyData) : Bool := d.showable && (decide (d.shown.length ≤ 1000) && (decide (d.depth ≤ 10) && (match d with
  | .str z => decide (z.length ≤ 60)
  | .tuple ds => decide (ds.length ≤ 1000)
  | _ => true)))
theorem fairB_ok {d : PyData} (h : fairB d = true) : Fair d := by
  unfold fairB at h
  simp only [Bool.and_eq_true, decide_eq_true_eq] at h
  obtain ⟨h1, h2, h3, h4⟩ := h
  refine ⟨⟨h1, h2, h3⟩, fun z e => ?_, fun ds e => ?_⟩
  · subst e
    simpa using h4
  · subst e
    simpa using h4
def odd1 : List PyData := [.none, .bool true, .bool false, .int 0, .int 1, .int (-1), .int 10, .int 99, .int 100, .int (10 ^ (39 : Int).toNat), .str "", .str "a", .str "ab", .str "ba", .str "aa", .str "A", .str "-", .tuple [], .tuple [.int 0], .tuple [.int 0, .int 0]]
def odd2 : List PyData := [.tuple [.int 1, .int 0], .list [], .dict [], .tuple [.tuple []], .tuple [.bool true], .tuple [.str "a"], .tuple [.int 0, .int 1]]
theorem odd_fair : (odd1 ++ odd2).all fairB = true := by kernel_rfl
theorem le_set {G : Env1} {σ : L2.St} {te : TE} {ds : List PyData} {H : Hp} {ok : Addr → Prop} {F : Ends} {rest : TS} (h : LE G σ te ds) (g : G.has H ok) (f : ∀ a, H a = none → ok a)
    (q : ∀ l vs H', Same H H' → ok l → H' l = some (.lst vs) → DqAll H' ok vs ds → rest F (σ.set 2 (some (.ref l))) H') : tSeq (tAsg te (gName 2)) rest F σ H := h H ok _ g f fun l vs H' s k z r => q l vs H' s k z r
theorem le_set1 {G : Env1} {σ : L2.St} {te : TE} {ds : List PyData} {H : Hp} {ok : Addr → Prop} {F : Ends} (h : LE G σ te ds) (g : G.has H ok) (f : ∀ a, H a = none → ok a)
    (q : ∀ l vs H', Same H H' → ok l → H' l = some (.lst vs) → DqAll H' ok vs ds → F.nx (σ.set 2 (some (.ref l))) H') : tAsg te (gName 2) F σ H := h H ok _ g f fun l vs H' s k z r => q l vs H' s k z r
/-- the seed, and the list so far -/
def envOdd (v : V) (d : PyData) (l : Addr) (vs : List V) (ds : List PyData) : Env1 := ⟨fun H ok => Dq H ok v d ∧ ok l ∧ H l = some (.lst vs) ∧ DqAll H ok vs ds, fun s h => ⟨Dq.grow h.1 s, h.2.1, s _ _ h.2.2.1, DqAll.grow h.2.2.2 s⟩⟩
def oddI (i : Int) : List PyData := [.int (i + 1), .int (i - 1), .bool (decide (i = 1)), .str (Str.ofString (toString i))]
theorem oddI_fair : ((List.range 101).all fun n => (oddI (n : Int)).all fairB) = true := by kernel_rfl
theorem DE.strI {G : Env1} {σ : L2.St} {te : TE} {i : Int} (h : DE G σ te (.int i)) (l : i.natAbs.log2 < 1920) : DE G σ (tCB (fun xs H Q => ∃ i, xs = [V.int i] ∧ i.natAbs.log2 < 1920 ∧ Q (V.str (Str.ofString (toString i))) H) (tCons te tNil)) (.str (Str.ofString (toString i))) := fun H ok Q g f q =>
  h H ok _ g f fun v H1 s1 r => by
    cases r
    exact ⟨i, rfl, l, q _ _ s1 (.str _)⟩
theorem cutG_mem {α : Type} {xs : List α} {lo hi : Option Int} {x : α} (h : x ∈ cutG xs lo hi) : x ∈ xs := List.mem_of_mem_drop (List.mem_of_mem_take h)
theorem fair_tup {es : List PyData} (h : ∀ e ∈ es, Show 0 4 e) (l : es.length ≤ 20) : Fair (.tuple es) :=
  ⟨(Show.tuple h).mono (by decide) (by have := Nat.mul_le_mul_right 6 l; omega), (fun z e => by cases e), (fun ds e => by cases e; omega)⟩
theorem fair_list {es : List PyData} (h : ∀ e ∈ es, Show 0 4 e) (l : es.length ≤ 20) : Fair (.list es) :=
  ⟨(Show.list h).mono (by decide) (by have := Nat.mul_le_mul_right 6 l; omega), (fun z e => by cases e), (fun ds e => by cases e)⟩
theorem fair_in {es : List PyData} (h : ∀ e ∈ es, Show 0 4 e) (l : es.length ≤ 20) : Fair (.tuple [.tuple es]) := by
  have s1 : Show 1 130 (.tuple es) := (Show.tuple h).mono (by decide) (by have := Nat.mul_le_mul_right 6 l; omega)
  refine ⟨(Show.tuple (n := 1) (B := 130) fun d hd => ?_).mono (by decide) (by show 1 * _ + 3 ≤ _; decide), (fun z e => by cases e), (fun ds e => by cases e; show 1 ≤ 1000; decide)⟩
  rw [List.mem_singleton.mp hd]
  exact s1
def oddT (ds : List PyData) : List PyData := [.list ds, .tuple (cutG ds (some 1) none), .tuple (cutG ds none (some (-1))), .tuple (ds ++ cutG ds (some (-1)) none), .tuple ds.reverse, .tuple [.tuple ds]]
theorem oddT_fair {ds : List PyData} (h : ∀ e ∈ ds, Show 0 4 e) (l : ds.length ≤ 8) : ∀ e ∈ oddT ds, Fair e := by
  intro e he
  have c := fun lo hi => cutG_len ds lo hi
  simp only [oddT, List.mem_cons, List.not_mem_nil, or_false] at he
  rcases he with rfl | rfl | rfl | rfl | rfl | rfl
  · exact fair_list h (by omega)
  · exact fair_tup (fun e z => h e (cutG_mem z)) (Nat.le_trans (c _ _) (by omega))
  · exact fair_tup (fun e z => h e (cutG_mem z)) (Nat.le_trans (c _ _) (by omega))
  · refine fair_tup (fun e z => (List.mem_append.mp z).elim (h e) fun y => h e (cutG_mem y)) ?_
    rw [List.length_append]
    have := c (some (-1)) none
    omega
  · exact fair_tup (fun e z => h e (List.mem_reverse.mp z)) (by rw [List.length_reverse]; omega)
  · exact fair_in h (by omega)
def oddS (x : Str) : List PyData := [.str (x ++ "a"), .str (Rw.revS x), .str (Txt.upper x), .list ((signs x).map .str), .str (x ++ "z")]
theorem oddS_fair : (subs.all fun x => decide (x.length ≤ 10) && (oddS x).all fairB) = true := by kernel_rfl
theorem DE.upS {G : Env1} {σ : L2.St} {te : TE} {x : Str} (h : DE G σ te (.str x)) (l : x.length ≤ 1000) : DE G σ (tM0 (fun x xs H Q => ∃ a, x = V.str a ∧ xs = [] ∧ a.length ≤ 5592405 ∧ Q (V.str (Txt.upper a)) H) te) (.str (Txt.upper x)) := fun H ok Q g f q =>
  h H ok _ g f fun v H1 s1 r => by
    cases r
    exact ⟨⟨x, rfl⟩, x, rfl, rfl, by omega, q _ _ s1 (.str _)⟩
theorem rep_mem {α : Type} {n : Nat} {xs : List α} {x : α} (h : x ∈ (List.replicate n xs).flatten) : x ∈ xs := by
  obtain ⟨l, h1, h2⟩ := List.mem_flatten.mp h
  rw [(List.mem_replicate.mp h1).2] at h2
  exact h2
section
variable {P : Program} {w : World} {K : PySem.W.Frag} {mg : Str → Option Value} {base : Heap}
theorem scOdd : FnScope NOdd ["deck", "it"] (defScope sOdd) := ⟨rfl, rfl, rfl, by decide +kernel, rfl, by decide +kernel, by decide +kernel⟩
theorem ok_odd {f fP fD : Addr} {fd fdP fdD : FuncData} (F : FunD K "_law_odd" "_law_odd" (defArgs sOdd) (defBody sOdd) (defScope sOdd) [] [] f fd) (T : Ts K mg)
    (FP : FunD K "_law_pick" "_law_pick" (defArgs sPick) (defBody sPick) (defScope sPick) [] [] fP fdP) (mP : mg "_law_pick" = some (.ref fP))
    (FD : FunD K "_law_draw" "_law_draw" (defArgs sDraw) (defBody sDraw) (defScope sDraw) [] [] fD fdD) (mD : mg "_law_draw" = some (.ref fD)) : FnOk P w K mg base CX0 3 f fd ["deck", "it"] spOdd := by
  have GP : FnOk P w K mg base CX0 2 fP fdP ["deck", "some"] spPick := ok_pick FP T.toTxt FD mD
  have bP : Binds K fdP ["deck", "some"] [] := FP.bindsN fun _ _ _ _ _ _ us hl => match us, hl with | [_, _], _ => rfl
  refine F.ok scOdd (fun vs H Q E h => ?_) (fun cdv A outer s H vs Q E hr h => ?_)
  · obtain ⟨_, _, _, _, _, rfl, _⟩ := h
    rfl
  obtain ⟨D, L, n, v, d, rfl, hd, hn, hv, hs, hq⟩ := h
  refine ⟨_, PSs.nox (pss_cons (ps_set (i := 2) scOdd.nd rfl (by first | exact Or.inl rfl | exact Or.inr rfl) (pe_lst (pa_cons pe_non (pa_cons pe_bl (pa_cons pe_bl (pa_cons pe_int (pa_cons pe_int (pa_cons (pe_un un_neg pe_int) (pa_cons pe_int (pa_cons pe_int (pa_cons pe_int (pa_cons (pe_op op_pow pe_int pe_int) (pa_cons pe_str (pa_cons pe_str (pa_cons pe_str (pa_cons pe_str (pa_cons pe_str (pa_cons pe_str (pa_cons pe_str (pa_cons (pe_tup pa_nil) (pa_cons (pe_tup (pa_cons pe_int pa_nil)) (pa_cons (pe_tup (pa_cons pe_int (pa_cons pe_int pa_nil))) pa_nil))))))))))))))))))))))
      (pss_cons (ps_set (i := 2) scOdd.nd rfl (by first | exact Or.inl rfl | exact Or.inr rfl) (pe_op op_cat (pv 2) (pe_lst (pa_cons (pe_tup (pa_cons pe_int (pa_cons pe_int pa_nil))) (pa_cons (pe_lst pa_nil) (pa_cons pe_dnewK (pa_cons (pe_tup (pa_cons (pe_tup pa_nil) pa_nil)) (pa_cons (pe_tup (pa_cons pe_bl pa_nil)) (pa_cons (pe_tup (pa_cons pe_str pa_nil)) (pa_cons (pe_tup (pa_cons pe_int (pa_cons pe_int pa_nil))) pa_nil))))))))))
      (pss_cons (ps_if (pt_val (pe_callB (call_isiK (K := K) rfl) (by rfl) T.isin PyProof.Rows.boot_isinstance (pa_cons (pv 1) (pa_cons (pe_bltn rfl T.tuple bt_tuple (show RelV (.ty "tuple") _ from rfl)) pa_nil)))) (pss_one (ps_set (i := 2) scOdd.nd rfl (by first | exact Or.inl rfl | exact Or.inr rfl) (pe_op op_cat (pv 2) (pe_op op_rep (pe_lst (pa_cons (pe_callTy call_list_of (by rfl) T.list (by decide +kernel) (pa_cons (pv 1) pa_nil)) (pa_cons (pe_slice sl_tupA (pv 1) (po_some pe_int) po_none) (pa_cons (pe_slice sl_tupA (pv 1) po_none (po_some (pe_un un_neg pe_int))) (pa_cons (pe_op op_catA (pv 1) (pe_slice sl_tupA (pv 1) (po_some (pe_un un_neg pe_int)) po_none)) (pa_cons (pe_revT (pv 1)) (pa_cons (pe_tup (pa_cons (pv 1) pa_nil)) pa_nil))))))) pe_int)))) pss_nil)
      (pss_cons (ps_if (pt_val (pe_callB (call_isiK (K := K) rfl) (by rfl) T.isin PyProof.Rows.boot_isinstance (pa_cons (pv 1) (pa_cons (pe_bltn rfl T.int bt_int (show RelV (.ty "int") _ from rfl)) pa_nil)))) (pss_one (ps_set (i := 2) scOdd.nd rfl (by first | exact Or.inl rfl | exact Or.inr rfl) (pe_op op_cat (pv 2) (pe_op op_rep (pe_lst (pa_cons (pe_op op_add (pv 1) pe_int) (pa_cons (pe_op op_sub (pv 1) pe_int) (pa_cons (pe_cmpR op_eq (pv 1) pe_int (nomark _)) (pa_cons (pe_callTy call_str_int (by rfl) T.str (by decide +kernel) (pa_cons (pv 1) pa_nil)) pa_nil))))) pe_int)))) pss_nil)
      (pss_cons (ps_if (pt_val (pe_callB (call_isiK (K := K) rfl) (by rfl) T.isin PyProof.Rows.boot_isinstance (pa_cons (pv 1) (pa_cons (pe_bltn rfl T.str bt_str (show RelV (.ty "str") _ from rfl)) pa_nil)))) (pss_one (ps_set (i := 2) scOdd.nd rfl (by first | exact Or.inl rfl | exact Or.inr rfl) (pe_op op_cat (pv 2) (pe_op op_rep (pe_lst (pa_cons (pe_op op_add_str (pv 1) pe_str) (pa_cons (pe_revS (pv 1)) (pa_cons (pe_upper (pv 1)) (pa_cons (pe_callTy (call_listText rfl) (by rfl) T.list (by decide +kernel) (pa_cons (pv 1) pa_nil)) (pa_cons (pe_op op_add_str (pv 1) pe_str) pa_nil)))))) pe_int)))) pss_nil)
      (pss_one (ps_ret (pe_call GP (hr.mono (by decide)) rfl mP FP.kp bP .nil pass0 (pa_cons (pv 0) (pa_cons (pv 2) pa_nil)))))))))), ?_⟩
  obtain ⟨⟨oD, hD⟩, ⟨oL, hL⟩⟩ := hd.two
  have fr : ∀ {H' : Hp}, Same H H' → ∀ a, H' a = none → okD D L a := fun s a h => ⟨(fun e => by rw [e, s _ _ hD] at h; cases h), (fun e => by rw [e, s _ _ hL] at h; cases h)⟩
  refine le_set (G := noEnv) (ds := odd1) (LE.lst (.cons .non (.cons (.bl _) (.cons (.bl _) (.cons (.int _) (.cons (.int _) (.cons (.neg _) (.cons (.int _) (.cons (.int _) (.cons (.int _) (.cons (.pow ⟨by decide, by decide, by decide⟩)
    (.cons (.str _) (.cons (.str _) (.cons (.str _) (.cons (.str _) (.cons (.str _) (.cons (.str _) (.cons (.str _) (.cons (.tup .nil (by decide)) (.cons (.tup (.cons (.int _) .nil) (by decide)) (.cons (.tup (.cons (.int _) (.cons (.int _) .nil)) (by decide)) .nil)))))))))))))))))))) (by decide))
    trivial (fr (Same.refl _)) fun l1 vs1 H1 s1 k1 g1 r1 => ?_
  refine le_set (G := envOdd v d l1 vs1 odd1) (ds := odd1 ++ odd2) (LE.cat (LE.var (vs := vs1) rfl fun H ok h => h.2) (LE.lst (.cons (.tup (.cons (.int _) (.cons (.int _) .nil)) (by decide)) (.cons (.lst .nil (by decide)) (.cons .dic0
    (.cons (.tup (.cons (.tup .nil (by decide)) .nil) (by decide)) (.cons (.tup (.cons (.bl _) .nil) (by decide)) (.cons (.tup (.cons (.str _) .nil) (by decide)) (.cons (.tup (.cons (.int _) (.cons (.int _) .nil)) (by decide)) .nil))))))) (by decide)) (by decide))
    ⟨Dq.grow hv s1, k1, g1, r1⟩ (fr s1) fun l2 vs2 H2 s2 k2 g2 r2 => ?_
  have s12 := s1.trans s2
  have hv2 := Dq.grow hv s12
  -- the end, from any list of fair things
  have fin : ∀ (l : Addr) (vs : List V) (ds : List PyData) (H' : Hp), Same H H' → okD D L l → H' l = some (.lst vs) → DqAll H' (okD D L) vs ds → (∀ e ∈ ds, Fair e) → 1 ≤ ds.length → ds.length ≤ 1000 →
      tRet (tCall spPick [] E0 (tCons (tVar 0) (tCons (tVar 2) tNil))) { nx := fun _ H' => Q .non H', rt := Q } [some (.ref D), some v, some (.ref l)] H' := fun l vs ds H' s k g r fs l0 l9 =>
    ⟨_, rfl, _, rfl, D, L, n, l, vs, rfl, hd.same s, by omega, g, k.2, by rw [r.len]; exact l0, by rw [r.len]; exact l9, fun i x H9 hx hd' hk => by
      obtain ⟨e, e1, e2⟩ := r.at hx
      exact hq x e H9 (fs e (List.mem_of_getElem? e1)) (e2.mono fun a o ka z => ⟨hk a o z ka.1 ka.2, ka⟩) hd' ((kp_same s).trans hk)⟩
  have f12 : ∀ e ∈ odd1 ++ odd2, Fair e := fun e he => fairB_ok (List.all_eq_true.mp odd_fair e he)
  have vv : ∀ H ok, (envOdd v d l2 vs2 (odd1 ++ odd2)).has H ok → Dq H ok v d := fun _ _ h => h.1
  have e2 : (envOdd v d l2 vs2 (odd1 ++ odd2)).has H2 (okD D L) := ⟨hv2, k2, g2, r2⟩
  cases hs with
  | int i h0 h1 =>
    refine ⟨_, rfl, v, .ty "tuple", _, _, _, rfl, .ty _, ty_of hv2, kit_tup K _, _, rfl, iteF ?_⟩
    refine ⟨_, rfl, v, .ty "int", _, _, _, rfl, .ty _, ty_of hv2, kit_int K _, _, rfl, iteT ?_⟩
    obtain ⟨n0, rfl⟩ := Int.eq_ofNat_of_zero_le h0
    have n9 : n0 < 101 := by omega
    have lg : ((n0 : Nat) : Int).natAbs.log2 < 1920 := (by decide +kernel : ∀ n < 101, ((n : Nat) : Int).natAbs.log2 < 1920) n0 n9
    have f3 : ∀ e ∈ oddI (n0 : Int), Fair e := fun e he => fairB_ok (List.all_eq_true.mp (List.all_eq_true.mp oddI_fair n0 (List.mem_range.mpr n9)) e he)
    refine le_set1 (G := envOdd v _ l2 vs2 (odd1 ++ odd2)) (ds := (odd1 ++ odd2) ++ (List.replicate 3 (oddI n0)).flatten) (LE.cat (LE.var (vs := vs2) rfl fun H ok h => h.2) (LE.rep (n := 3) (LE.lst (.cons (.addI (.var rfl vv) (.int 1)) (.cons (.subI (.var rfl vv) (.int 1))
      (.cons (.eqI (.var rfl vv) (.int 1)) (.cons (DE.strI (.var rfl vv) lg) .nil)))) (by show 4 ≤ 1000; decide)) (by show 4 * 3 ≤ 1000; decide) (by decide)) (by show 27 + 12 ≤ 1000; decide)) e2 (fr s12) fun l3 vs3 H3 s3 k3 g3 r3 => ?_
    have hv3 := Dq.grow hv2 s3
    refine ⟨_, rfl, v, .ty "str", _, _, _, rfl, .ty _, ty_of hv3, kit_str K _, _, rfl, iteF ?_⟩
    refine fin l3 vs3 _ H3 (s12.trans s3) k3 g3 r3 (fun e he => ?_) (by show 1 ≤ 39; decide) (by show 39 ≤ 1000; decide)
    rcases List.mem_append.mp he with z | z
    · exact f12 e z
    · exact f3 e (rep_mem z)
  | txt x hx =>
    have fx := List.all_eq_true.mp oddS_fair x hx
    rw [Bool.and_eq_true, decide_eq_true_eq] at fx
    have lx : x.length ≤ 1000 := Nat.le_trans fx.1 (by decide)
    refine ⟨_, rfl, v, .ty "tuple", _, _, _, rfl, .ty _, ty_of hv2, kit_tup K _, _, rfl, iteF ?_⟩
    refine ⟨_, rfl, v, .ty "int", _, _, _, rfl, .ty _, ty_of hv2, kit_int K _, _, rfl, iteF ?_⟩
    refine ⟨_, rfl, v, .ty "str", _, _, _, rfl, .ty _, ty_of hv2, kit_str K _, _, rfl, iteT ?_⟩
    have la : x.length + ("a" : Str).length ≤ 1000 := Nat.le_trans (Nat.add_le_add_right fx.1 _) (by decide)
    have lz : x.length + ("z" : Str).length ≤ 1000 := Nat.le_trans (Nat.add_le_add_right fx.1 _) (by decide)
    refine le_set1 (G := envOdd v _ l2 vs2 (odd1 ++ odd2)) (ds := (odd1 ++ odd2) ++ (List.replicate 2 (oddS x)).flatten) (LE.cat (LE.var (vs := vs2) rfl fun H ok h => h.2) (LE.rep (n := 2) (LE.lst (.cons (.addS (.var rfl vv) (.str _) la) (.cons (.revS (.var rfl vv) lx)
      (.cons (DE.upS (.var rfl vv) lx) (.cons (.listS (.var rfl vv) lx) (.cons (.addS (.var rfl vv) (.str _) lz) .nil))))) (by show 5 ≤ 1000; decide)) (by show 5 * 2 ≤ 1000; decide) (by decide)) (by show 27 + 10 ≤ 1000; decide)) e2 (fr s12) fun l3 vs3 H3 s3 k3 g3 r3 => ?_
    refine fin l3 vs3 _ H3 (s12.trans s3) k3 g3 r3 (fun e he => ?_) (by show 1 ≤ 37; decide) (by show 37 ≤ 1000; decide)
    rcases List.mem_append.mp he with z | z
    · exact f12 e z
    · exact fairB_ok (List.all_eq_true.mp fx.2 e (rep_mem z))
  | tup ms hm hms =>
    refine ⟨_, rfl, v, .ty "tuple", _, _, _, rfl, .ty _, ty_of hv2, kit_tup K _, _, rfl, iteT ?_⟩
    have sh : ∀ e ∈ ms.map (fun (n : Nat) => PyData.int (n : Int)), Show 0 4 e := fun e he => by
      obtain ⟨m, hm1, rfl⟩ := List.mem_map.mp he
      exact show_nat (Nat.le_trans (hms m hm1) (by decide))
    generalize eds : (ms.map fun (n : Nat) => PyData.int (n : Int)) = ds at *
    have ld : ds.length ≤ 8 := by rw [← eds, List.length_map]; exact hm
    have c := cutG_len ds (some (-1)) none
    refine le_set1 (G := envOdd v _ l2 vs2 (odd1 ++ odd2)) (ds := (odd1 ++ odd2) ++ (List.replicate 2 (oddT ds)).flatten) (LE.cat (LE.var (vs := vs2) rfl fun H ok h => h.2) (LE.rep (n := 2) (LE.lst (.cons (DE.listT (K := K) (.var rfl vv)) (.cons (DE.slice (.var rfl vv) (po1_int 1) po1_no)
      (.cons (DE.slice (.var rfl vv) po1_no (po1_neg 1)) (.cons (DE.catT (.var rfl vv) (DE.slice (.var rfl vv) (po1_neg 1) po1_no) (by omega)) (.cons (DE.revT (.var rfl vv)) (.cons (.tup (.cons (.var rfl vv) .nil) (by show 1 ≤ 1000; decide)) .nil)))))) (by show 6 ≤ 1000; decide)) (by show 6 * 2 ≤ 1000; decide) (by decide)) (by show 27 + 12 ≤ 1000; decide))
      e2 (fr s12) fun l3 vs3 H3 s3 k3 g3 r3 => ?_
    have hv3 := Dq.grow hv2 s3
    refine ⟨_, rfl, v, .ty "int", _, _, _, rfl, .ty _, ty_of hv3, kit_int K _, _, rfl, iteF ?_⟩
    refine ⟨_, rfl, v, .ty "str", _, _, _, rfl, .ty _, ty_of hv3, kit_str K _, _, rfl, iteF ?_⟩
    refine fin l3 vs3 _ H3 (s12.trans s3) k3 g3 r3 (fun e he => ?_) (by show 1 ≤ 39; decide) (by show 39 ≤ 1000; decide)
    rcases List.mem_append.mp he with z | z
    · exact f12 e z
    · exact oddT_fair sh ld e (rep_mem z)
end
end K58

set_option Elab.async false
set_option linter.all false
set_option maxRecDepth 100000
set_option maxHeartbeats 4000000
namespace K58
open PySem PySem.Spec PyProof.Rows L2 Rw
abbrev sPair : Stmt := top 26
abbrev NPair : List Str := ["one", "two", "near", "far", "near_now", "far_now", "due", "classes_now", "sees", "it", "pair", "sign"]
/-- a pair of a text and a tuple of numbers -/
def Pr (H : Hp) (o : Addr) (a : Str) (ms : List Nat) : Prop := ∃ p, H o = some (.tup [.str a, .ref p]) ∧ H p = some (.tup (nums ms))
theorem Pr.grow {H H' : Hp} {o : Addr} {a : Str} {ms : List Nat} (h : Pr H o a ms) (s : Same H H') : Pr H' o a ms := by
  obtain ⟨p, h1, h2⟩ := h
  exact ⟨p, s _ _ h1, s _ _ h2⟩
structure GoodL (a : Str) : Prop where
  sub : a ∈ subs
  heard : heardT a = true
  len : a.length ≤ 10
  ok : PyData.strOk a = true
  show_ : Show 0 20 (.str a)
theorem subs_good : (subs.all fun a => heardT a && (decide (a.length ≤ 10) && (PyData.strOk a && ((PyData.str a).showable && (decide ((PyData.str a).shown.length ≤ 20) && (decide ((PyData.str a).depth ≤ 0) && (signs a).all fun k => decide (k ∈ signs "abcdez"))))))) = true := by kernel_rfl
theorem good_sub {a : Str} (h : a ∈ subs) : GoodL a ∧ ∀ k ∈ signs a, k ∈ signs "abcdez" := by
  have := List.all_eq_true.mp subs_good a h
  simp only [Bool.and_eq_true, decide_eq_true_eq, List.all_eq_true] at this
  obtain ⟨h1, h2, h3, h4, h5, h6, h7⟩ := this
  exact ⟨⟨h, h1, h2, h3, ⟨h4, h5, h6⟩⟩, h7⟩
theorem sub_filter {α : Type} (p : α → Bool) : ∀ l : List α, l.filter p ∈ subsL l
  | [] => by simp [subsL]
  | a :: r => by
    have ih := sub_filter p r
    rw [List.filter_cons]
    simp only [subsL, List.mem_append, List.mem_map]
    cases p a with
    | true => exact .inr ⟨_, ih, rfl⟩
    | false => exact .inl ih
theorem abc_asc : (signs "abcdez").Pairwise ltS := of_decide_eq_true (by kernel_rfl : decide ((signs "abcdez").Pairwise ltS) = true)
theorem pool_sub {a b z : Str} (ha : a ∈ subs) (hb : b ∈ subs) (h : Pool a b z) : z ∈ subs := by
  have e : z = Txt.join "" ((signs "abcdez").filter fun k => decide (k ∈ signs a ∨ k ∈ signs b)) := by
    refine h.uniq ⟨_, abc_asc.filter _, fun k => ?_, rfl⟩
    rw [List.mem_filter, decide_eq_true_eq]
    exact ⟨fun q => q.2, fun q => ⟨q.elim ((good_sub ha).2 k) ((good_sub hb).2 k), q⟩⟩
  rw [e]
  exact List.mem_map.mpr ⟨_, sub_filter _ _, rfl⟩
theorem norm_two (ns ms : List Nat) : norm ((norm ns).zip (norm ms)) = norm (ns.zip ms) := by
  rw [← norm_cast (norm ns) (norm ms)]
  exact norm_zip ns ms
structure GoodC (ms : List Nat) : Prop where
  ne : ms ≠ []
  len : ms.length ≤ 8
theorem nums_cI (ms : List Nat) : nums ms = (ms.map cI).map V.int := by
  unfold nums
  rw [List.map_map]
  rfl
theorem norm_cI (ms : List Nat) : norm (ms.map cI) = norm ms := norm_map fun x _ y _ e => Int.ofNat.inj e
def markP (K : PySem.W.Frag) : Mark K (Nat × Nat) where
  e := fun m => .tuple [.int (m.1 : Int), .int (m.2 : Int)]
  R := fun H v m => ∃ t, v = .ref t ∧ H t = some (.tup [.int (m.1 : Int), .int (m.2 : Int)])
  mono := fun s ⟨t, h1, h2⟩ => ⟨t, h1, s _ _ h2⟩
  dp := fun ⟨t, h1, h2⟩ => h1 ▸ .tup (SqT.of h2) (.cons (.int _) (.cons (.int _) .nil))
  eqv := fun a b => by
    obtain ⟨a1, a2⟩ := a
    obtain ⟨b1, b2⟩ := b
    simp only [PyData.eqv, PyData.eqvAll]
    by_cases h : a1 = b1
    · by_cases k : a2 = b2
      · simp [h, k]
      · simp [h, k, Int.natCast_inj]
    · simp [h, Int.natCast_inj]
  lay := fun _ => by simp only [PyData.canLay0, PyData.canLayAll0, Bool.and_self]
  deep := fun _ => by simp only [PyData.depth, PyData.depthAll]; decide
structure Tq (P : Program) (K : PySem.W.Frag) (mg : Str → Option Value) (cB cO cL cW fI fR fS fE : Addr) : Prop extends Tv P K mg cB cO cL cW fI fR fS where
  eqF : PySem.W.findIn K (.ref cL) "__eq__" = some (some (.ref fE))
  eqI : PySem.W.isFn K (.ref fE) = true
  nf : ∀ n ∈ ["NoneType", "str", "list", "tuple"], PySem.W.notFirst K cL (.type n) = true
  kD : ∀ n ∈ ["NoneType", "str", "list", "tuple"], PySem.W.kitOne K (.type n) (.ref cL) = some false
  si : SlX.SIsi K cL
  kO : PySem.W.kitOne K (.ref cL) (.ref cL) = some true
section
variable {P : Program} {w : World} {K : PySem.W.Frag} {mg : Str → Option Value} {base : Heap} {cB cO cL cW : Addr}
theorem init_core {H : Hp} {Q : VK} {p : Addr} {a : Str} {ms : List Nat} (hh : heardT a = true) (hl : a.length ≤ 60) (n0 : ms ≠ []) (l : ms.length ≤ 1000) (h2 : H p = some (.tup (nums ms))) (q : ∀ u H', Same H H' → Onl cL H' u a (norm ms) → Q (.ref u) H') (x dx : Addr) (fx : H x = none) (fdx : H dx = none) (ne : dx ≠ x) :
    spInit cB cL [.ref x, .str a, .ref p] (upd (upd H dx (.own x)) x (.ins cL dx [])) (fun v H2 => v = .non ∧ Q (.ref x) H2) E0 := by
  have s1 : Same H (upd (upd H dx (.own x)) x (.ins cL dx [])) := fun c d z => by
    rw [upd_ne (ne_of_none z fx), upd_ne (ne_of_none z fdx)]
    exact z
  refine ⟨x, dx, .str a, .ref p, fun _ => True, .str a, .tuple (ms.map fun (n : Nat) => .int (n : Int)), rfl, upd_same, .str a, .tup trivial (s1 _ _ h2) (dq_nums _), fun _ e => by cases e; exact hl, fun ds e => by cases e; rw [List.length_map]; exact l, fun msI e1 e2 e3 p3 H4 s5 f5 g5 g6 => ⟨rfl, ?_⟩, fun s d H4 eb _ _ _ => ?_⟩
  · have e4 : msI = ms.map cI := by
      injection e2 with e2
      refine (pd_ints ?_).symm
      rw [← e2, List.map_map]
      rfl
    rw [e4, norm_cI] at g5
    exact q x H4 (fun c o zz => s5 _ _ (s1 _ _ zz) (ne_of_none zz fx)) ⟨dx, p3, g6, g5⟩
  · unfold badV at eb
    rw [show heardD (.str a) = true from hh, all_nat _ n0] at eb
    cases eb
/-- Onlooker(x[0], x[1]) -/
theorem mk_read {σ : L2.St} {H : Hp} {Q : VK} {i : Nat} {o : Addr} {a : Str} {ms : List Nat} (hi : σ[i]? = some (some (.ref o))) (pr : Pr H o a ms) (ga : GoodL a) (gm : GoodC ms) (q : ∀ u H', Same H H' → Onl cL H' u a (norm ms) → Q (.ref u) H') :
    tMake cL (fun vs H Q _ => spInit cB cL vs H Q E0) [] E0 (tCons (tOp (rIxT K) (tVar i) (tC (.int 0))) (tCons (tOp (rIxT K) (tVar i) (tC (.int 1))) tNil)) σ H Q := by
  obtain ⟨p, h1, h2⟩ := pr
  exact ⟨_, hi, o, _, 0, .str a, rfl, rfl, SqT.of h1, rfl, _, hi, o, _, 1, .ref p, rfl, rfl, SqT.of h1, rfl, init_core ga.heard (Nat.le_trans ga.len (by decide)) gm.ne (Nat.le_trans gm.len (by decide)) h2 q⟩
/-- _law_normal(x[1]) -/
theorem nm_read {σ : L2.St} {H : Hp} {Q : VK} {i : Nat} {o : Addr} {a : Str} {ms : List Nat} (hi : σ[i]? = some (some (.ref o))) (pr : Pr H o a ms) (gm : GoodC ms) (q : ∀ p H', Same H H' → H p = none → H' p = some (.tup (nums (norm ms))) → Q (.ref p) H') :
    tCall (spN (markI K)) [] E0 (tCons (tOp (rIxT K) (tVar i) (tC (.int 1))) tNil) σ H Q := by
  obtain ⟨p, h1, h2⟩ := pr
  refine ⟨_, hi, o, _, 1, .ref p, rfl, rfl, SqT.of h1, rfl, p, _, ms.map cI, rfl, h2, ?_, by rw [List.length_map]; exact Nat.le_trans gm.len (by decide), fun p2 H' s f g => ?_⟩
  · rw [nums_cI]
    exact paired_ints _
  · rw [norm_cI] at g
    exact q p2 H' s f g
/-- what the law expects -/
def dueD (a b z : Str) (ns ms : List Nat) : PyData := if ns.length = ms.length then .list [.str z, numD (norm (ns.zip ms)), .bool (allIn b a && decide (norm (ns.zip ms) = norm ns)), .bool (allIn b a && decide (norm (ns.zip ms) = norm ns))] else .list [.str "faces", .str "faces"]
theorem show_numN {ns : List Nat} (h : ∀ n ∈ ns, n ≤ 1000) (l : ns.length ≤ 100) : Show 1 1000 (numD ns) := by
  have h := Show.tuple (ds := ns.map fun (n : Nat) => PyData.int (n : Int)) (n := 0) (B := 4) fun d hd => by
    obtain ⟨n, hn, rfl⟩ := List.mem_map.mp hd
    exact show_nat (h n hn)
  refine h.mono (Nat.le_refl _) ?_
  rw [List.length_map]
  omega
theorem norm_leN {α : Type} [DecidableEq α] {ms : List α} (hl : ms.length ≤ 1000) : ∀ n ∈ norm ms, n ≤ 1000 := by
  intro n hn
  obtain ⟨m, hm, rfl⟩ := List.mem_map.mp hn
  have h := ix_at ((mem_firsts ms m).mpr hm)
  have l := (List.getElem?_eq_some_iff.mp h.1).1
  exact Nat.le_trans (Nat.le_of_lt l) (Nat.le_trans (firsts_len ms) hl)
theorem show_bool (c : Bool) : Show 0 5 (.bool c) := by
  cases c
  · exact ⟨by decide +kernel, by decide +kernel, by decide +kernel⟩
  · exact ⟨by decide +kernel, by decide +kernel, by decide +kernel⟩
theorem show_due {a b z : Str} {ns ms : List Nat} (hz : z ∈ subs) (gn : GoodC ns) : Show 2 5000 (dueD a b z ns ms) := by
  unfold dueD
  split
  · refine (Show.list (n := 1) (B := 1000) fun d hd => ?_).mono (Nat.le_refl _) (by show 4 * _ + 2 ≤ _; omega)
    simp only [List.mem_cons, List.not_mem_nil, or_false] at hd
    have lz : (ns.zip ms).length ≤ 8 := by rw [List.length_zip]; exact Nat.le_trans (Nat.min_le_left _ _) gn.len
    rcases hd with rfl | rfl | rfl | rfl
    · exact (good_sub hz).1.show_.mono (by decide) (by decide)
    · exact show_numN (norm_leN (by omega)) (by rw [norm_len]; omega)
    · exact (show_bool _).mono (by decide) (by decide)
    · exact (show_bool _).mono (by decide) (by decide)
  · exact ⟨by decide +kernel, Nat.le_trans (by decide +kernel : _ ≤ 100) (by decide), Nat.le_trans (by decide +kernel : _ ≤ 1) (by decide)⟩
theorem tail_pair {D : Ends} {σ : L2.St} {H : Hp} {o u1 u2 ld : Addr} {a b z : Str} {ns ms : List Nat} (i0 : σ[0]? = some (some (.ref o))) (i2 : σ[2]? = some (some (.ref u1))) (i3 : σ[3]? = some (some (.ref u2))) (i6 : σ[6]? = some (some (.ref ld)))
    (po : Pr H o a ns) (o1 : Onl cL H u1 a (norm ns)) (o2 : Onl cL H u2 b (norm ms)) (ga : GoodL a) (gb : GoodL b) (gn : GoodC ns) (hz : z ∈ subs) (pool : ns.length = ms.length → Pool a b z) (dd : Dq H (fun _ => True) (.ref ld) (dueD a b z ns ms)) (hq : ∀ H', Same H H' → D.rt (.bl true) H') :
    tRet (tAndV (tOp rEq (tCB rRepr (tCons (tCall (spPool cL) [] E0 (tCons (tVar 2) (tCons (tVar 3) tNil))) tNil)) (tCB rRepr (tCons (tVar 6) tNil)))
      (tOp (rOwnI cL (fun vs H Q E => spEqO cL (vs ++ []) H Q E) E0) (tVar 2) (tMake cL (fun vs H Q _ => spInit cB cL vs H Q E0) [] E0 (tCons (tOp (rIxT K) (tVar 0) (tC (.int 0))) (tCons (tOp (rIxT K) (tVar 0) (tC (.int 1))) tNil))))) D σ H := by
  have sh := show_due (a := a) (b := b) (ms := ms) hz gn
  have b1 : 5000 ≤ sizeLine := by decide
  have fin : ∀ (l : Addr) (H' : Hp), Same H H' → Dq H' (fun _ => True) (.ref l) (dueD a b z ns ms) → (rRepr [.ref l] H' fun x H1 => (tCB rRepr (tCons (tVar 6) tNil)) σ H1 fun y H2 => rEq x y H2 fun x H1 => ∃ c, x = .bl c ∧ if c = true then
      (tOp (rOwnI cL (fun vs H Q E => spEqO cL (vs ++ []) H Q E) E0) (tVar 2) (tMake cL (fun vs H Q _ => spInit cB cL vs H Q E0) [] E0 (tCons (tOp (rIxT K) (tVar 0) (tC (.int 0))) (tCons (tOp (rIxT K) (tVar 0) (tC (.int 1))) tNil)))) σ H1 D.rt else D.rt (.bl false) H1) := by
    intro l H' s dl
    refine ⟨_, .ref l, _, rfl, dl, sh.ok, Nat.le_trans sh.len b1, Nat.le_trans sh.deep (by decide), ?_⟩
    refine ⟨_, i6, _, .ref ld, _, rfl, Dq.grow dd s, sh.ok, Nat.le_trans sh.len b1, Nat.le_trans sh.deep (by decide), rfl, ?_⟩
    rw [decide_eq_true rfl]
    refine ⟨_, rfl, iteT ?_⟩
    refine rd_op ⟨_, i2, ?_⟩
    refine mk_read i0 (po.grow s) ga gn fun u H5 s5 o5 => ?_
    have o15 := o1.grow (s.trans s5)
    obtain ⟨d1, r1, g1, _⟩ := id o15
    obtain ⟨d2, r2, g2, _⟩ := id o5
    refine ⟨u1, d1, _, u, d2, _, rfl, rfl, g1, g2, u1, u, a, a, norm ns, norm ns, rfl, o15, o5, ga.ok, ga.ok, fun H6 s6 => ?_⟩
    have := hq _ ((s.trans s5).trans s6)
    have e : decide (a = a ∧ norm ns = norm ns) = true := by simp
    rw [e]
    exact this
  refine rd_ret (rd_andV (rd_op (rd_cb (rd_cons (rd_call ?_)))))
  refine ⟨_, i2, _, i3, u1, u2, a, b, norm ns, norm ms, rfl, o1, o2, ga.heard, gb.heard, ga.len, gb.len, fun e => gn.ne ?_, by rw [norm_len]; have := gn.len; omega, fun len z' p l s H' pl es sH gp gl => ?_, fun len l H' sH gl => ?_⟩
  · have := norm_len ns
    rw [e] at this
    exact List.length_eq_zero_iff.mp this.symm
  · rw [norm_len, norm_len] at len
    rw [norm_two] at gp es
    have ez := pl.uniq (pool len)
    subst ez
    refine fin l H' sH ?_
    unfold dueD
    rw [if_pos len]
    subst es
    exact .lst trivial gl (.cons (.str _) (.cons (.tup trivial gp (dq_nums _)) (.cons (.bl _) (.cons (.bl _) .nil))))
  · rw [norm_len, norm_len] at len
    refine fin l H' sH ?_
    unfold dueD
    rw [if_neg len]
    exact .lst trivial gl (.cons (.str _) (.cons (.str _) .nil))
theorem sees_read {σ : L2.St} {H : Hp} {k : VK} {o cn : Addr} {a : Str} {ns zs : List Nat} {c : Bool} (i0 : σ[0]? = some (some (.ref o))) (i7 : σ[7]? = some (some (.ref cn))) (po : Pr H o a ns) (gn : GoodC ns) (gcn : H cn = some (.tup (nums zs)))
    (h : ∀ H', Same H H' → k (.bl (c && decide (zs = norm ns))) H') : ∃ c', V.bl c = .bl c' ∧ if c' = true then tOp (rEqD K) (tCall (spN (markI K)) [] E0 (tCons (tOp (rIxT K) (tVar 0) (tC (.int 1))) tNil)) (tVar 7) σ H k else k (.bl false) H := by
  cases c with
  | false => exact ⟨_, rfl, iteF (h H (Same.refl _))⟩
  | true =>
    refine ⟨_, rfl, iteT (rd_op (nm_read i0 po gn fun p H' s f g => ⟨_, i7, ?_⟩))⟩
    refine ⟨.tuple ((norm ns).map fun (n : Nat) => .int (n : Int)), .tuple (zs.map fun (n : Nat) => .int (n : Int)), .tup (SqT.of g) (dpNums _), .tup (SqT.of (s _ _ gcn)) (dpNums _), shNums _, shNums _, ?_⟩
    rw [eqvNumD]
    have q := h H' s
    rw [Bool.true_and] at q
    have e : decide (norm ns = zs) = decide (zs = norm ns) := by
      rw [decide_eq_decide]
      exact ⟨Eq.symm, Eq.symm⟩
    rw [e]
    exact q
theorem scPair : FnScope NPair ["one", "two"] (defScope sPair) := ⟨rfl, rfl, rfl, by decide +kernel, rfl, by decide +kernel, by decide +kernel⟩
def spPair : Sp := fun vs H Q _ => ∃ (o t : Addr) (a b : Str) (ns ms : List Nat), vs = [.ref o, .ref t] ∧ Pr H o a ns ∧ Pr H t b ms ∧ GoodL a ∧ GoodL b ∧ GoodC ns ∧ GoodC ms ∧ ∀ H', Same H H' → Q (.bl true) H'
theorem ok_pair {f fO fH fI fA fN fR fS fE fW fM : Addr} {fd fdO fdH fdI fdA fdN fdE fdW fdM : FuncData} (F : FunD K "_law_pair_right" "_law_pair_right" (defArgs sPair) (defBody sPair) (defScope sPair) [] [] f fd) (T : Tq P K mg cB cO cL cW fO fR fS fE) (hsy : ∃ o, K.lookup sysModules = some o)
    (FO : FunD K "__init__" "Onlooker.__init__" (defArgs sInit) (defBody sInit) (defScope sInit) [] [] fO fdO) (mL : mg "Onlooker" = some (.ref cL))
    (FH : FunD K "is_heard" "is_heard" (defArgs sIsH) (defBody sIsH) (defScope sIsH) [] [] fH fdH) (mH : mg "is_heard" = some (.ref fH))
    (FI : FunD K "is_integer" "is_integer" (defArgs sIsI) (defBody sIsI) (defScope sIsI) [] [] fI fdI) (mI : mg "is_integer" = some (.ref fI))
    (FA : FunD K "are_classes" "are_classes" (defArgs sAreC) (defBody sAreC) (defScope sAreC) [] [] fA fdA) (mA : mg "are_classes" = some (.ref fA))
    (FM : FunD K "put_anew" "put_anew" (defArgs sPA) (defBody sPA) (defScope sPA) [] [] fM fdM) (mM : mg "put_anew" = some (.ref fM))
    (FE : FunD K "__eq__" "Onlooker.__eq__" (defArgs sEq) (defBody sEq) (defScope sEq) [] [] fE fdE)
    (FN : FunD K "_law_normal" "_law_normal" (defArgs sN) (defBody sN) (defScope sN) [] [] fN fdN) (mN : mg "_law_normal" = some (.ref fN))
    (FW : FunD K "_law_pooled" "_law_pooled" (defArgs sPool) (defBody sPool) (defScope sPool) [] [] fW fdW) (mW : mg "_law_pooled" = some (.ref fW)) (GW : FnOk P w K mg base CX0 6 fW fdW ["near", "far"] (spPool cL)) :
    FnG P w K mg base CX0 7 f fd ["one", "two"] spPair := by
  have GO0 := ok_to0 (ok_init (P := P) (w := w) (base := base) FO T.toTx FH mH FI mI FA mA FM mM)
  have bO : Binds K fdO ["self", "letters", "classes"] [] := FO.bindsN fun _ _ _ _ _ _ us hl => match us, hl with | [_, _, _], _ => rfl
  have bE : Binds K fdE ["self", "other"] [] := FE.bindsN fun _ _ _ _ _ _ us hl => match us, hl with | [_, _], _ => rfl
  have RE := (ok_eqO (P := P) (w := w) (mg := mg) (base := base) FE T.toTx mL T.si T.kO).raw bE .nil
  have RB := (ok_eqB (P := P) (w := w) (mg := mg) (base := base) FE T.toTx mL T.kD).raw bE .nil
  have GN : FnOk P w K mg base CX0 1 fN fdN ["classes_now"] (spN (markI K)) := ok_N (markI K) FN T.toTs
  have GM : FnOk P w K mg base CX0 1 fN fdN ["classes_now"] (spN2 (markP K)) := ok_N2 (markP K) FN T.toTs
  have bN : Binds K fdN ["classes_now"] [] := FN.bindsN fun _ _ _ _ _ _ us hl => match us, hl with | [_], _ => rfl
  have bW : Binds K fdW ["near", "far"] [] := FW.bindsN fun _ _ _ _ _ _ us hl => match us, hl with | [_, _], _ => rfl
  refine fn_okG F scPair (fun vs H Q E h => ?_) (fun cdv A outer s H vs Q E hg hr h => ?_)
  · obtain ⟨_, _, _, _, _, _, rfl, _⟩ := h
    rfl
  obtain ⟨o, t, a, b, ns, ms, rfl, po, pt, ga, gb, gn, gm, hq⟩ := h
  refine ⟨_, (pss_cons (ps_asg (pe_tup (pa_cons (pe_make T.mkL GO0 (hr.mono (by decide)) rfl mL bO .nil pass0 (pa_cons (pe_ix (ix_tupK (K := K) rfl) (pv 0) pe_int (fun _ _ => rfl)) (pa_cons (pe_ix (ix_tupK (K := K) rfl) (pv 0) pe_int (fun _ _ => rfl)) pa_nil))) (pa_cons (pe_make T.mkL GO0 (hr.mono (by decide)) rfl mL bO .nil pass0 (pa_cons (pe_ix (ix_tupK (K := K) rfl) (pv 1) pe_int (fun _ _ => rfl)) (pa_cons (pe_ix (ix_tupK (K := K) rfl) (pv 1) pe_int (fun _ _ => rfl)) pa_nil))) pa_nil))) (pg_tupK (K := K) (n := 2) rfl (by rfl) (pgs_cons (pg_name (i := 2) scPair.nd rfl (by first | exact Or.inl rfl | exact Or.inr rfl)) (pgs_cons (pg_name (i := 3) scPair.nd rfl (by first | exact Or.inl rfl | exact Or.inr rfl)) pgs_nil))))
      (pss_cons (ps_par (i := 4) (j := 5) (by rfl) scPair.nd rfl rfl (by decide) rfl rfl (pa_cons (pe_tup (pa_cons (pe_ix (ix_tupK (K := K) rfl) (pv 0) pe_int (fun _ _ => rfl)) (pa_cons (pe_call GN (hr.mono (by decide)) rfl mN FN.kp bN .nil pass0 (pa_cons (pe_ix (ix_tupK (K := K) rfl) (pv 0) pe_int (fun _ _ => rfl)) pa_nil)) pa_nil))) (pa_cons (pe_tup (pa_cons (pe_ix (ix_tupK (K := K) rfl) (pv 1) pe_int (fun _ _ => rfl)) (pa_cons (pe_call GN (hr.mono (by decide)) rfl mN FN.kp bN .nil pass0 (pa_cons (pe_ix (ix_tupK (K := K) rfl) (pv 1) pe_int (fun _ _ => rfl)) pa_nil)) pa_nil))) pa_nil)) (by rfl))
      (pss_cons (ps_if (PW.pt (pw_or (pt_cmpR op_ne (pe_cmpR (op_eqOwn T.eqF T.eqI RE (hr.mono (by decide)) pass0) (pv 2) (pv 3) (nomark _)) (pe_cmpR (op_eqD hr.units) (pv 4) (pv 5) (nomark _)) (nomark _)) (pw_or1 (pt_cmpR (op_neL0 hr.units0) (pe_lc (own := [("it", 9)]) rfl scPair.nd (pi_tup (pe_tup (pa_cons (pv 4) (pa_cons pe_non (pa_cons pe_str (pa_cons (pe_lst (pa_cons (pv 2) pa_nil)) pa_nil)))))) (blkOk_by (N := NPair) (sc := defScope sPair) (by decide +kernel)) (fun _ _ _ _ _ => (pg_name (i := 9) scPair.nd rfl (by first | exact Or.inl rfl | exact Or.inr rfl))) (fun _ _ _ _ _ => (pts_one (pt_cmpR (op_eqOwnDK (K := K) rfl T.eqF T.eqI RB (hr.mono (by decide)) pass0) (pv 2) (pv 9) (nomark _)))) (fun _ _ _ _ _ => (pv 9))) (pe_lst pa_nil) (nomark _))))) (pss_one (ps_ret pe_bl)) pss_nil)
      (pss_cons (ps_set (i := 6) scPair.nd rfl (by first | exact Or.inl rfl | exact Or.inr rfl) (pe_lst (pa_cons pe_str (pa_cons pe_str pa_nil))))
      (pss_cons (ps_if (pt_cmpR op_eq (pe_callB call_len_seq (by rfl) T.len PySem.boot_len (pa_cons (pe_ix (ix_tupK (K := K) rfl) (pv 0) pe_int (fun _ _ => rfl)) pa_nil)) (pe_callB call_len_seq (by rfl) T.len PySem.boot_len (pa_cons (pe_ix (ix_tupK (K := K) rfl) (pv 1) pe_int (fun _ _ => rfl)) pa_nil)) (nomark _)) (pss_cons (ps_set (i := 7) scPair.nd rfl (by first | exact Or.inl rfl | exact Or.inr rfl) (pe_call GM (hr.mono (by decide)) rfl mN FN.kp bN .nil pass0 (pa_cons (pe_lc (own := [("pair", 10)]) rfl scPair.nd (pi_zipN (K := K) rfl rfl T.zip (pa_cons (pe_ix (ix_tupK (K := K) rfl) (pv 0) pe_int (fun _ _ => rfl)) (pa_cons (pe_ix (ix_tupK (K := K) rfl) (pv 1) pe_int (fun _ _ => rfl)) pa_nil))) (blkOk_by (N := NPair) (sc := defScope sPair) (by decide +kernel)) (fun _ _ _ _ _ => (pg_name (i := 10) scPair.nd rfl (by first | exact Or.inl rfl | exact Or.inr rfl))) (fun _ _ _ _ _ => pts_nil) (fun _ _ _ _ _ => (pv 10))) pa_nil)))
      (pss_cons (ps_set (i := 8) scPair.nd rfl (by first | exact Or.inl rfl | exact Or.inr rfl) (pe_and (pe_cmpR (op_eqL0 hr.units0) (pe_lc (own := [("sign", 11)]) rfl scPair.nd (pi_str (pe_ix (ix_tupK (K := K) rfl) (pv 1) pe_int (fun _ _ => rfl))) (blkOk_by (N := NPair) (sc := defScope sPair) (by decide +kernel)) (fun _ _ _ _ _ => (pg_name (i := 11) scPair.nd rfl (by first | exact Or.inl rfl | exact Or.inr rfl))) (fun _ _ _ _ _ => (pts_one (pt_cmpR op_notIn_sign (pv 11) (pe_ix (ix_tupK (K := K) rfl) (pv 0) pe_int (fun _ _ => rfl)) (by with_unfolding_all rfl)))) (fun _ _ _ _ _ => (pv 11))) (pe_lst pa_nil) (nomark _)) (pe_one (pe_cmpR (op_eqD hr.units) (pe_call GN (hr.mono (by decide)) rfl mN FN.kp bN .nil pass0 (pa_cons (pe_ix (ix_tupK (K := K) rfl) (pv 0) pe_int (fun _ _ => rfl)) pa_nil)) (pv 7) (nomark _)))))
      (pss_one (ps_set (i := 6) scPair.nd rfl (by first | exact Or.inl rfl | exact Or.inr rfl) (pe_lst (pa_cons (pe_join pe_str (pe_callB (cr_sortedText rfl) (by rfl) T.sorted (by decide +kernel) (pa_cons (pe_callTy (cr_setText rfl) (by rfl) T.set (by decide +kernel) (pa_cons (pe_op op_add_str (pe_ix (ix_tupK (K := K) rfl) (pv 0) pe_int (fun _ _ => rfl)) (pe_ix (ix_tupK (K := K) rfl) (pv 1) pe_int (fun _ _ => rfl))) pa_nil)) pa_nil))) (pa_cons (pv 7) (pa_cons (pv 8) (pa_cons (pv 8) pa_nil))))))))) pss_nil)
      (pss_one (ps_ret (pe_and (pe_cmpR op_eq (pe_callB (call_repr hg hr.units hsy) (by rfl) T.repr PyProof.Rows.boot_repr (pa_cons (pe_call GW (hr.mono (by decide)) rfl mW FW.kp bW .nil pass0 (pa_cons (pv 2) (pa_cons (pv 3) pa_nil))) pa_nil)) (pe_callB (call_repr hg hr.units hsy) (by rfl) T.repr PyProof.Rows.boot_repr (pa_cons (pv 6) pa_nil)) (nomark _)) (pe_one (pe_cmpR (op_eqOwn T.eqF T.eqI RE (hr.mono (by decide)) pass0) (pv 2) (pe_make T.mkL GO0 (hr.mono (by decide)) rfl mL bO .nil pass0 (pa_cons (pe_ix (ix_tupK (K := K) rfl) (pv 0) pe_int (fun _ _ => rfl)) (pa_cons (pe_ix (ix_tupK (K := K) rfl) (pv 0) pe_int (fun _ _ => rfl)) pa_nil))) (nomark _))))))))))), ?_⟩
  refine rd_seq (rd_asg (rd_tup (rd_cons (mk_read rfl po ga gn fun u1 H1 s1 o1 => ?_))))
  refine rd_cons (mk_read rfl (pt.grow s1) gb gm fun u2 H2 s2 o2 => ?_)
  refine ⟨(by show 2 ≤ sizeLine; decide), fun l3 fl3 => ⟨_, _, rfl, SqT.of upd_same, rfl, ?_⟩⟩
  have s3 := (s1.trans s2).trans (same_new (o := .tup [.ref u1, .ref u2]) fl3)
  have o13 := o1.grow (s2.trans (same_new (o := .tup [.ref u1, .ref u2]) fl3))
  have o23 := o2.grow (same_new (o := .tup [.ref u1, .ref u2]) fl3)
  have po3 := po.grow s3
  have pt3 := pt.grow s3
  generalize upd H2 l3 (.tup [.ref u1, .ref u2]) = H3 at *
  refine ⟨_, _, rfl, _, _, rfl, rfl, ?_⟩
  dsimp only
  refine rd_seq (rd_par (rd_cons (rd_tup (rd_cons ?_))))
  obtain ⟨p1, h1, h1'⟩ := id po3
  obtain ⟨p2, h2, h2'⟩ := id pt3
  refine ⟨_, rfl, o, _, 0, .str a, rfl, rfl, SqT.of h1, rfl, ?_⟩
  refine rd_cons (nm_read rfl po3 gn fun q1 H4 s4 fq1 gq1 => ?_)
  refine ⟨(by show 2 ≤ sizeLine; decide), fun n1 fn1 => ?_⟩
  have t5 := s4.trans (same_new (o := .tup [.str a, .ref q1]) fn1)
  refine rd_cons (rd_tup (rd_cons ?_))
  refine ⟨_, rfl, t, _, 0, .str b, rfl, rfl, SqT.of (t5 _ _ h2), rfl, ?_⟩
  refine rd_cons (nm_read rfl (pt3.grow t5) gm fun q2 H6 s6 fq2 gq2 => ?_)
  refine ⟨(by show 2 ≤ sizeLine; decide), fun n2 fn2 => ⟨_, _, rfl, ?_⟩⟩
  have gn1 := (s6.trans (same_new (o := .tup [.str b, .ref q2]) fn2)) _ _ (upd_same (H := H4) (a := n1) (o := .tup [.str a, .ref q1]))
  have gq1' := ((same_new (o := .tup [.str a, .ref q1]) fn1).trans (s6.trans (same_new (o := .tup [.str b, .ref q2]) fn2))) _ _ gq1
  have gq2' := (same_new (o := .tup [.str b, .ref q2]) fn2) _ _ gq2
  have s7 := t5.trans (s6.trans (same_new (o := .tup [.str b, .ref q2]) fn2))
  have gn2 : upd H6 n2 (.tup [.str b, .ref q2]) n2 = some (.tup [.str b, .ref q2]) := upd_same
  have sH := s3.trans s7
  have o17 := o13.grow s7
  have o27 := o23.grow s7
  have po7 := po3.grow s7
  have pt7 := pt3.grow s7
  generalize upd H6 n2 (.tup [.str b, .ref q2]) = H7 at *
  obtain ⟨d1, r1, gi1, gr1⟩ := id o17
  obtain ⟨d2, r2, gi2, gr2⟩ := id o27
  dsimp only
  refine rd_seq (rd_ifs (rd_or (rd_test (rd_op (rd_op ?_)))))
  refine ⟨_, rfl, _, rfl, u1, d1, _, u2, d2, _, rfl, rfl, gi1, gi2, u1, u2, a, b, norm ns, norm ms, rfl, o17, o27, ga.ok, gb.ok, fun H8 s8 => ?_⟩
  refine ⟨_, rfl, _, rfl, .tuple [.str a, .tuple ((norm ns).map fun (n : Nat) => .int (n : Int))], .tuple [.str b, .tuple ((norm ms).map fun (n : Nat) => .int (n : Int))], .tup (SqT.of (s8 _ _ gn1)) (.cons (.str a) (.cons (.tup (SqT.of (s8 _ _ gq1')) (dpNums _)) .nil)),
    .tup (SqT.of (s8 _ _ gn2)) (.cons (.str b) (.cons (.tup (SqT.of (s8 _ _ gq2')) (dpNums _)) .nil)), shOnl ga.ok _, shOnl gb.ok _, rfl, _, rfl, ?_⟩
  have e : PyData.eqv (.tuple [.str a, .tuple ((norm ns).map fun (n : Nat) => .int (n : Int))]) (.tuple [.str b, .tuple ((norm ms).map fun (n : Nat) => .int (n : Int))]) = decide (a = b ∧ norm ns = norm ms) := by
    simp only [PyData.eqv, PyData.eqvAll, eqvNums]
    by_cases e : a = b <;> simp [e]
  rw [e]
  have e2 : (!decide (V.bl (decide (a = b ∧ norm ns = norm ms)) = V.bl (decide (a = b ∧ norm ns = norm ms)))) = false := by simp
  rw [e2]
  refine iteF ?_
  have s8H := sH.trans s8
  refine rd_test (rd_op ?_)
  refine ⟨_, rfl, _, rfl, (by show 1 ≤ sizeLine; decide), fun ll fll => ⟨(by show 4 ≤ sizeLine; decide), fun tp ftp => ⟨tp, rfl, ⟨_, SqT.of upd_same⟩, fun D hD => ?_⟩⟩⟩
  have s9 := (same_new (o := .lst [.ref u1]) fll).trans (same_new (o := .tup [.ref n1, .non, .str "abc", .ref ll]) ftp)
  have gll := (same_new (o := .tup [.ref n1, .non, .str "abc", .ref ll]) ftp) _ _ (upd_same (H := H8) (a := ll) (o := .lst [.ref u1]))
  have gtp : upd (upd H8 ll (.lst [.ref u1])) tp (.tup [.ref n1, .non, .str "abc", .ref ll]) tp = some (.tup [.ref n1, .non, .str "abc", .ref ll]) := upd_same
  have s89 := s8.trans s9
  have s9H := s8H.trans s9
  generalize upd (upd H8 ll (.lst [.ref u1])) tp (.tup [.ref n1, .non, .str "abc", .ref ll]) = H9 at *
  have s10 := same_new (o := .lst []) hD
  have side : ∀ x ∈ ([.ref n1, .non, .str "abc", .ref ll] : List V), ∃ n, n ∈ ["NoneType", "str", "list", "tuple"] ∧ Beside (upd H9 D (.lst [])) x n := by
    intro x hx
    simp only [List.mem_cons, List.not_mem_nil, or_false] at hx
    rcases hx with rfl | rfl | rfl | rfl
    · exact ⟨_, by simp, .tup (s10 _ _ (s89 _ _ gn1))⟩
    · exact ⟨_, by simp, .non⟩
    · exact ⟨_, by simp, .str _⟩
    · exact ⟨_, by simp, .lst (s10 _ _ gll)⟩
  refine lc_tup (xs := [.ref n1, .non, .str "abc", .ref ll]) (fun i H' => H' = upd H9 D (.lst [])) rfl ?_ ?_ ?_
  · rintro i _ _ rfl
    exact SqT.of (s10 _ _ gtp)
  · rintro i x _ hxi rfl
    obtain ⟨n, hn, hb⟩ := side x (List.mem_of_getElem? hxi)
    refine ⟨rfl, _, rfl, _, rfl, u1, d1, _, n, rfl, s10 _ _ (s89 _ _ gi1), hb, T.nf n hn, u1, x, n, rfl, hb, false, rfl, iteF rfl⟩
  rintro _ rfl
  refine ⟨Nat.zero_le _, fun le fle => ?_⟩
  have s11 := same_new (o := .lst []) fle
  refine ⟨D, le, _, rfl, rfl, SqL.of (s11 _ _ upd_same), SqL.of upd_same, _, rfl, iteF ?_⟩
  have s12 := s10.trans s11
  have s12H := s9H.trans s12
  have s12' := s89.trans s12
  clear side
  generalize upd (upd H9 D (.lst [])) le (.lst []) = H10 at *
  have o1a := o17.grow s12'
  have o2a := o27.grow s12'
  have poa := po7.grow s12'
  have pta := pt7.grow s12'
  clear e e2 gll gtp
  refine rd_next ?_
  dsimp only
  refine rd_seq ?_
  refine ⟨(by show 2 ≤ sizeLine; decide), fun ld fld => ?_⟩
  have s13 := same_new (o := .lst [.str "faces", .str "faces"]) fld
  have gld : upd H10 ld (.lst [.str "faces", .str "faces"]) ld = some (.lst [.str "faces", .str "faces"]) := upd_same
  have s13H := s12H.trans s13
  have o1b := o1a.grow s13
  have o2b := o2a.grow s13
  have pob := poa.grow s13
  have ptb := pta.grow s13
  generalize upd H10 ld (.lst [.str "faces", .str "faces"]) = H11 at *
  obtain ⟨pa, ga1, ga2⟩ := id pob
  obtain ⟨pb, gb1, gb2⟩ := id ptb
  refine rd_seq ?_
  refine ⟨_, rfl, o, _, 1, .ref pa, rfl, rfl, SqT.of ga1, rfl, pa, nums ns, rfl, .inr (SqT.of ga2), _, rfl, t, _, 1, .ref pb, rfl, rfl, SqT.of gb1, rfl, pb, nums ms, rfl, .inr (SqT.of gb2), rfl, _, rfl, ?_⟩
  refine ite2 (fun c => ?_) fun c => ?_
  rotate_left
  · have len : ns.length ≠ ms.length := fun e => by
      simp [nums, e] at c
    refine rd_next ?_
    dsimp only
    refine tail_pair (z := "") rfl rfl rfl rfl pob o1b o2b ga gb gn (by decide +kernel) (fun e => absurd e len) ?_ fun H' s => hq _ (s13H.trans s)
    unfold dueD
    rw [if_neg len]
    exact .lst trivial gld (.cons (.str _) (.cons (.str _) .nil))
  have len : ns.length = ms.length := by
    have c2 : (ns.length : Int) = (ms.length : Int) := by simpa [nums] using c
    exact Int.ofNat.inj c2
  refine rd_seq ?_
  refine ⟨_, rfl, o, _, 1, .ref pa, rfl, rfl, SqT.of ga1, rfl, _, rfl, t, _, 1, .ref pb, rfl, rfl, SqT.of gb1, rfl, true, pa, pb, nums ns, nums ms, rfl, SqT.of ga2, SqT.of gb2, fun D2 hD2 => ?_⟩
  have s14 := same_new (o := .lst []) hD2
  refine lc_zipB (xs := nums ns) (ys := nums ms) (by simp [nums, len]) (fun i H' => ∃ ts : List Addr, Same H11 H' ∧ H' D2 = some (.lst (ts.map V.ref)) ∧ ts.length = i ∧ ∀ (j : Nat) (t : Addr) (m : Nat × Nat), ts[j]? = some t → (ns.zip ms)[j]? = some m → H' t = some (.tup [.int (m.1 : Int), .int (m.2 : Int)])) ⟨[], s14, upd_same, rfl, fun j t m q => by cases q⟩ ?_ ?_ ?_
  · rintro i H' _ ⟨ts, s, _⟩
    exact ⟨SqT.of (s _ _ ga2), SqT.of (s _ _ gb2)⟩
  · rintro i x y T H' hx hy ⟨ts, s, g, l, q⟩ fT
    have nT : T ≠ D2 := fun e => by rw [e, g] at fT; cases fT
    have li : i < 9 := by
      have := (List.getElem?_eq_some_iff.mp hx).1
      simp only [nums, List.length_map] at this
      have := gn.len
      omega
    refine ⟨rfl, yes_read (iteT ⟨_, rfl, ts.map V.ref, ?_, small1000 (by rw [List.length_map]; omega), ts ++ [T], fun c o zz => ?_, ?_, ?_, ?_⟩)⟩
    · rw [upd_ne (Ne.symm nT)]
      exact g
    · rw [upd_ne (ne_of_none zz hD2), upd_ne (ne_of_none (s c o zz) fT)]
      exact s c o zz
    · rw [upd_same, List.map_append]
      rfl
    · rw [List.length_append, l]
      rfl
    · intro j t' m q1 q2
      by_cases hj : j < ts.length
      · rw [List.getElem?_append_left hj] at q1
        have q' := q j t' m q1 q2
        rw [upd_ne (ne_of q' g fun z => by cases z), upd_ne (ne_of_none q' fT)]
        exact q'
      · have ej : j = ts.length := by
          have := (List.getElem?_eq_some_iff.mp q1).1
          rw [List.length_append, List.length_singleton] at this
          omega
        subst ej
        rw [List.getElem?_append_right (Nat.le_refl _), Nat.sub_self] at q1
        cases q1
        rw [l, List.getElem?_zip_eq_some] at q2
        obtain ⟨q3, q4⟩ := q2
        unfold nums at hx hy
        rw [List.getElem?_map, q3] at hx
        rw [List.getElem?_map, q4] at hy
        cases hx
        cases hy
        rw [upd_ne nT, upd_same]
  · rintro H12 ⟨ts, s15, g12, l12, q12⟩
    have lz : (ns.zip ms).length = ns.length := by rw [List.length_zip, len, Nat.min_self]
    have ln8 := gn.len
    refine ⟨D2, _, ns.zip ms, rfl, g12, ?_, by omega, fun cn H13 s16 f13 g13 => ?_⟩
    · have hp : Paired (fun t m => H12 t = some (.tup [.int ((m : Nat × Nat).1 : Int), .int (m.2 : Int)])) ts (ns.zip ms) := paired_of (by rw [l12, lz]; simp [nums]) q12
      clear q12 g12 l12
      generalize ns.zip ms = zz at hp
      induction hp with
      | nil => exact .nil
      | cons h t ih => exact .cons ⟨_, rfl, h⟩ ih
    have s17 := s15.trans s16
    have s13' := s13H.trans s17
    have o1c := o1b.grow s17
    have o2c := o2b.grow s17
    have poc := pob.grow s17
    have gcn := g13
    have ga1' := s17 _ _ ga1
    have gb1' := s17 _ _ gb1
    clear g12 q12 s15 s16 f13
    refine ⟨_, rfl, t, _, 0, .str b, rfl, rfl, SqT.of gb1', rfl, b, rfl, fun D3 hD3 => ?_⟩
    have s18 : ∀ ys, Same H13 (upd H13 D3 (.lst ys)) := fun ys => same_new hD3
    refine lc_it (walk_str (z := b)) (fun i H' => H' = upd H13 D3 (.lst ((((signs b).take i).filter fun k => !decide (k ∈ signs a)).map V.str))) rfl (fun _ _ _ _ => trivial) ?_ ?_
    · rintro i _ _ _ hi rfl ⟨rfl, c, hc, rfl⟩
      have et : (signs b).take (i + 1) = (signs b).take i ++ [⟨#[c]⟩] := by
        have : (signs b)[i]? = some ⟨#[c]⟩ := by
          unfold signs
          rw [List.getElem?_map, Array.getElem?_toList, hc]
          rfl
        rw [List.take_add_one, this]
        rfl
      have small : ((((signs b).take i).filter fun k => !decide (k ∈ signs a)).map V.str).length < sizeLine := by
        refine small1000 ?_
        rw [List.length_map]
        refine Nat.le_trans (List.length_filter_le _ _) ?_
        rw [List.length_take]
        have : b.cps.size ≤ 10 := gb.len
        omega
      refine ⟨rfl, _, rfl, _, rfl, o, _, 0, .str a, rfl, rfl, SqT.of (s18 _ _ _ ga1'), rfl, c, a, rfl, rfl, _, rfl, ?_⟩
      rw [in_cps, et, List.filter_append, List.filter_cons]
      cases ek : decide ((⟨#[c]⟩ : Str) ∈ signs a) with
      | true =>
        refine iteF ?_
        simp
      | false =>
        refine iteT ⟨_, rfl, _, upd_same, small, ?_⟩
        rw [upd_upd]
        simp
    rintro _ rfl
    rw [show b.cps.size = (signs b).length from (signs_length b).symm, List.take_length]
    have s19 := s18 (((signs b).filter fun k => !decide (k ∈ signs a)).map V.str)
    have g19 : upd H13 D3 (.lst (((signs b).filter fun k => !decide (k ∈ signs a)).map V.str)) D3 = some (.lst (((signs b).filter fun k => !decide (k ∈ signs a)).map V.str)) := upd_same
    have em : (((signs b).filter fun k => !decide (k ∈ signs a)).map V.str).isEmpty = allIn b a := by
      unfold allIn
      rw [Bool.eq_iff_iff, List.isEmpty_iff, List.map_eq_nil_iff, List.filter_eq_nil_iff, List.all_eq_true]
      simp
    generalize upd H13 D3 (.lst (((signs b).filter fun k => !decide (k ∈ signs a)).map V.str)) = H14 at *
    refine ⟨Nat.zero_le _, fun le2 fle2 => ?_⟩
    have s20 := same_new (o := .lst []) fle2
    refine ⟨D3, le2, _, rfl, rfl, SqL.of (s20 _ _ g19), SqL.of upd_same, ?_⟩
    rw [em]
    have s21 := s19.trans s20
    have s21H := s13'.trans s21
    have o1d := o1c.grow s21
    have o2d := o2c.grow s21
    have pod := poc.grow s21
    have gcn' := s21 _ _ gcn
    have ga1d := s21 _ _ ga1'
    have gb1d := s21 _ _ gb1'
    generalize upd H14 le2 (.lst []) = H15 at *
    clear s18 g19 hD3 fle2 s19 s20
    refine sees_read rfl rfl pod gn gcn' fun H16 s22 => ?_
    refine rd_seq ?_
    have s22H := s21H.trans s22
    have ga1e := s22 _ _ ga1d
    have gb1e := s22 _ _ gb1d
    have lab : (a ++ b).length = a.length + b.length := by
      show (a.cps ++ b.cps).size = _
      rw [Array.size_append]
      rfl
    have la := ga.len
    have lb := gb.len
    refine ⟨⟨_, rfl⟩, _, rfl, o, _, 0, .str a, rfl, rfl, SqT.of ga1e, rfl, _, rfl, t, _, 0, .str b, rfl, rfl, SqT.of gb1e, rfl, ?_⟩
    refine ⟨a, b, rfl, rfl, Nat.le_trans (by omega : _ ≤ 1000) (by decide), ?_⟩
    refine ⟨a ++ b, rfl, by omega, fun sa c hsa hc => ⟨sa, _, c, rfl, upd_same, by omega, fun ys l y1 y2 y3 y4 fl => ?_⟩⟩
    have hys : ∀ k, k ∈ ys ↔ k ∈ signs a ∨ k ∈ signs b := fun k => by
      rw [y3 k, decide_eq_true_eq, signs_app, List.mem_append]
    have pool : Pool a b (Txt.join "" ys) := ⟨ys, asc_sorted y1 y2, hys, rfl⟩
    have one : ∀ y ∈ ys, ∃ n : Nat, y = ⟨#[n]⟩ := fun y hy => ((hys y).mp hy).elim sign_one sign_one
    have e0 : ("" : Str).length = 0 := rfl
    refine ⟨"", l, ys, rfl, rfl, .inl (SqL.of upd_same), by rw [ones_sum one, e0]; omega, ?_⟩
    have s23 := (same_new (o := SetS P w sa (fun k => decide (k ∈ signs (a ++ b))) c) hsa).trans (same_new (o := .lst (ys.map V.str)) fl)
    refine ⟨_, rfl, _, rfl, _, rfl, (by show 4 ≤ sizeLine; decide), fun l4 fl4 => ?_⟩
    have s24 := s23.trans (same_new (o := .lst [.str (Txt.join "" ys), .ref cn, .bl (allIn b a && decide (norm (ns.zip ms) = norm ns)), .bl (allIn b a && decide (norm (ns.zip ms) = norm ns))]) fl4)
    refine tail_pair (z := Txt.join "" ys) rfl rfl rfl rfl (pod.grow (s22.trans s24)) (o1d.grow (s22.trans s24)) (o2d.grow (s22.trans s24)) ga gb gn (pool_sub ga.sub gb.sub pool) (fun _ => pool) ?_ fun H' s => hq _ ((s22H.trans s24).trans s)
    unfold dueD
    rw [if_pos len]
    exact .lst trivial upd_same (.cons (.str _) (.cons (.tup trivial (s24 _ _ (s22 _ _ gcn')) (dq_nums _)) (.cons (.bl _) (.cons (.bl _) .nil))))
end
end K58

set_option Elab.async false
set_option linter.all false
set_option maxRecDepth 100000
set_option maxHeartbeats 4000000
namespace K58
open PySem PySem.Spec PyProof.Rows L2 Rw
abbrev sBent : Stmt := top 17
abbrev NBent : List Str := ["deck", "it", "deep", "at"]
structure FairW (d : PyData) : Prop where
  show_ : Show 20 100000 d
  txt : ∀ z, d = .str z → z.length ≤ 60
  tup : ∀ ds, d = .tuple ds → ds.length ≤ 1000
theorem Fair.w {d : PyData} (h : Fair d) : FairW d := ⟨h.show_.mono (by decide) (by decide), h.txt, h.tup⟩
def spBent : Nat → Sp
  | 0 => fun _ _ _ _ => False
  | k + 1 => fun vs H Q _ => ∃ (D L : Addr) (n : Int) (v : V) (d : PyData), vs = [.ref D, v, .int (k : Int)] ∧ Deck H D L n ∧ n ≤ 890000 - 10 * k ∧ k ≤ 2 ∧ Dq H (okD D L) v d ∧ Seed d ∧ (k ≤ 1 → ∃ i, d = .int i) ∧
    ∀ u e H' n', FairW e → (k ≤ 1 → Fair e) → Dq H' (okD D L) u e → Deck H' D L n' → n' ≤ n + 10 * (k + 1) → Kp D L H H' → Q u H'
section
variable {P : Program} {w : World} {K : PySem.W.Frag} {mg : Str → Option Value} {base : Heap}
theorem catA_read {H : Hp} {ok : Addr → Prop} {v u : V} {ds es : List PyData} {Q : VK} (f : ∀ a, H a = none → ok a) (h1 : Dq H ok v (.tuple ds)) (h2 : Dq H ok u (.tuple es)) (l : ds.length + es.length ≤ 1000) (q : ∀ y H', Same H H' → Dq H' ok y (.tuple (ds ++ es)) → Q y H') : rCatA K v u H Q := by
  obtain ⟨a, xs, rfl, ha, hx, r3⟩ := tup_at h1
  obtain ⟨b, ys, rfl, hb, hy, r4⟩ := tup_at h2
  refine ⟨a, b, xs, ys, rfl, rfl, SqT.of hx, SqT.of hy, Nat.le_trans (by rw [r3.len, r4.len]; exact l) (by decide), fun e => ?_, fun e1 e2 => ?_, fun _ _ p hp => ?_⟩
  · subst e
    cases r3
    exact q _ _ (Same.refl _) (.tup hb hy r4)
  · subst e2
    cases r4
    refine q _ _ (Same.refl _) (.tup ha hx ?_)
    rw [List.append_nil]
    exact r3
  · exact q _ _ (same_new hp) (.tup (f p hp) upd_same (DqAll.grow (DqAll.append r3 r4) (same_new hp)))
def envT (v : V) (d : PyData) : Env1 := ⟨fun H ok => Dq H ok v d, fun s h => Dq.grow h s⟩
theorem scBent : FnScope NBent ["deck", "it", "deep"] (defScope sBent) := ⟨rfl, rfl, rfl, by decide +kernel, rfl, by decide +kernel, by decide +kernel⟩
theorem ok_bent {f fO fD : Addr} {fd fdO fdD : FuncData} (F : FunD K "_law_bent" "_law_bent" (defArgs sBent) (defBody sBent) (defScope sBent) [] [] f fd) (T : Ts K mg) (mV : mg "_law_bent" = some (.ref f))
    (FO : FunD K "_law_odd" "_law_odd" (defArgs sOdd) (defBody sOdd) (defScope sOdd) [] [] fO fdO) (mO : mg "_law_odd" = some (.ref fO)) (GO : FnOk P w K mg base CX0 3 fO fdO ["deck", "it"] spOdd)
    (FD : FunD K "_law_draw" "_law_draw" (defArgs sDraw) (defBody sDraw) (defScope sDraw) [] [] fD fdD) (mD : mg "_law_draw" = some (.ref fD)) : ∀ n, FnOk P w K mg base CX0 (n + 3) f fd ["deck", "it", "deep"] (spBent n)
  | 0 => ⟨fun _ _ _ _ h => h.elim, fun _ _ _ _ _ _ _ _ _ _ _ _ _ h => h.elim⟩
  | k + 1 => by
    have FV := F
    have GV := ok_bent F T mV FO mO GO FD mD k
    have GD : FnOk P w K mg base CX0 1 fD fdD ["deck", "below"] spDraw := ok_draw FD T.toTxt
    have bD : Binds K fdD ["deck", "below"] [] := FD.bindsN fun _ _ _ _ _ _ us hl => match us, hl with | [_, _], _ => rfl
    have bO : Binds K fdO ["deck", "it"] [] := FO.bindsN fun _ _ _ _ _ _ us hl => match us, hl with | [_, _], _ => rfl
    have bV : Binds K fd ["deck", "it", "deep"] [] := F.bindsN fun _ _ _ _ _ _ us hl => match us, hl with | [_, _, _], _ => rfl
    refine F.ok scBent (fun vs H Q E h => ?_) (fun cdv A outer s H vs Q E hr h => ?_)
    · obtain ⟨_, _, _, _, _, rfl, _⟩ := h
      rfl
    obtain ⟨D, L, n, v, d, rfl, hd, hn, hk, hv, hs, hi, hq⟩ := h
    refine ⟨_, PSs.nox (pss_cons (ps_if (PW.pt (pw_or (pt_cmpR op_eq (pv 2) pe_int (nomark _)) (pw_or (pt_not (pt_val (pe_callB (call_isiK (K := K) rfl) (by rfl) T.isin PyProof.Rows.boot_isinstance (pa_cons (pv 1) (pa_cons (pe_bltn rfl T.tuple bt_tuple (show RelV (.ty "tuple") _ from rfl)) pa_nil))))) (pw_or (pt_cmpR (op_eqT0 hr.units0) (pv 1) (pe_tup pa_nil) (nomark _)) (pw_or1 (pt_cmpR op_eq (pe_call GD (hr.mono (by omega)) rfl mD FD.kp bD .nil pass0 (pa_cons (pv 0) (pa_cons pe_int pa_nil))) pe_int (nomark _))))))) (pss_one (ps_ret (pe_call GO (hr.mono (by omega)) rfl mO FO.kp bO .nil pass0 (pa_cons (pv 0) (pa_cons (pv 1) pa_nil))))) pss_nil)
      (pss_cons (ps_set (i := 3) scBent.nd rfl (by first | exact Or.inl rfl | exact Or.inr rfl) (pe_call GD (hr.mono (by omega)) rfl mD FD.kp bD .nil pass0 (pa_cons (pv 0) (pa_cons (pe_callB call_len_seq (by rfl) T.len PySem.boot_len (pa_cons (pv 1) pa_nil)) pa_nil))))
      (pss_one (ps_ret (pe_op op_catA (pe_op op_catA (pe_slice sl_tupA (pv 1) po_none (po_some (pv 3))) (pe_tup (pa_cons (pe_call GV (hr.mono (by omega)) rfl mV FV.kp bV .nil pass0 (pa_cons (pv 0) (pa_cons (pe_ix ix_tup (pv 1) (pv 3) (fun _ _ => rfl)) (pa_cons (pe_op op_sub (pv 2) pe_int) pa_nil)))) pa_nil))) (pe_slice sl_tupA (pv 1) (po_some (pe_op op_add (pv 3) pe_int)) po_none)))))), ?_⟩
    clear F FV FO FD GV GO GD bD bO bV mV mO mD
    obtain ⟨⟨oD, hD⟩, ⟨oL, hL⟩⟩ := hd.two
    have keepD : ∀ {H' : Hp} {u : V} {e : PyData}, Kp D L H H' → Dq H (okD D L) u e → Dq H' (okD D L) u e := fun kp h => h.mono fun a o ka z => ⟨kp a o z ka.1 ka.2, ka⟩
    have od : ∀ (H1 : Hp) (n1 : Int) (c : Option V), Kp D L H H1 → Deck H1 D L n1 → n1 ≤ n + 1 → tRet (tCall spOdd [] E0 (tCons (tVar 0) (tCons (tVar 1) tNil))) { nx := fun _ H' => Q .non H', rt := Q } [some (.ref D), some v, some (.int (k : Int)), c] H1 := fun H1 n1 c k1 d1 l1 =>
      ⟨_, rfl, _, rfl, D, L, n1, v, d, rfl, d1, by omega, keepD k1 hv, hs, fun u e H' fe de dk kp => hq u e H' (n1 + 1) fe.w (fun _ => fe) de dk (by omega) (k1.trans kp)⟩
    have k0 : Kp D L H H := kp_same (Same.refl _)
    refine ⟨_, rfl, rfl, _, rfl, ite2 (fun _ => iteT (od H n _ k0 hd (by omega))) fun _ => ?_⟩
    refine ⟨_, rfl, v, .ty "tuple", _, _, _, rfl, .ty _, ty_of hv, kit_tup K _, _, rfl, ?_⟩
    cases hs with
    | txt x hx => exact iteT (iteT (od H n _ k0 hd (by omega)))
    | int i h0 h1 => exact iteT (iteT (od H n _ k0 hd (by omega)))
    | tup ms hm hms =>
      refine iteF ?_
      obtain ⟨a, xs, rfl, ha, hxa, hxs⟩ := tup_at hv
      refine ⟨_, rfl, Nat.zero_le _, fun q fq => ?_⟩
      have s1 := same_new (o := .tup []) fq
      refine ⟨a, q, xs, rfl, rfl, SqT.of (s1 _ _ hxa), SqT.of upd_same, _, rfl, ?_⟩
      cases ee : xs.isEmpty with
      | true => exact iteT (iteT (od _ n _ (kp_same s1) (hd.same s1) (by omega)))
      | false =>
        refine iteF ?_
        refine ⟨_, rfl, D, L, n, 5, rfl, hd.same s1, by omega, by decide, by decide, fun r2 H2 _ _ d2 kp2 => ⟨rfl, _, rfl, ite2 (fun _ => od H2 (n + 1) _ ((kp_same s1).trans kp2) d2 (by omega)) fun _ => ?_⟩⟩
        have kpH2 := (kp_same (D := D) (L := L) s1).trans kp2
        have ln : xs.length = ms.length := by rw [hxs.len, List.length_map]
        have x1 : 1 ≤ xs.length := by
          cases xs with
          | nil => cases ee
          | cons _ _ => simp
        refine ⟨_, rfl, _, rfl, a, xs, rfl, .inr (SqT.of (kpH2 _ _ hxa ha.1 ha.2)), D, L, n + 1, xs.length, rfl, d2, by omega, by omega, by omega, fun r3 H3 r30 r31 d3 kp3 => ?_⟩
        have kpH3 := kpH2.trans kp3
        have hv3 := keepD kpH3 hv
        obtain rfl : k = 2 := by
          by_cases c : k ≤ 1
          · obtain ⟨i, e⟩ := hi c
            cases e
          · omega
        obtain ⟨j, rfl⟩ := Int.eq_ofNat_of_zero_le r30
        have hj : j < xs.length := by omega
        have fr : ∀ {H' : Hp} {m : Int}, Deck H' D L m → ∀ b, H' b = none → okD D L b := fun dd b h => by
          obtain ⟨⟨o1, h1⟩, ⟨o2, h2⟩⟩ := dd.two
          exact ⟨(fun e => by rw [e, h1] at h; cases h), (fun e => by rw [e, h2] at h; cases h)⟩
        refine DE.slice (G := envT (.ref a) _) (σ := [some (.ref D), some (.ref a), some (.int ((2 : Nat) : Int)), some (.int (j : Int))]) (DE.var rfl fun _ _ h => h) po1_no (po1_var rfl) H3 (okD D L) _ hv3 (fr d3) fun v1 H4 s4 r4 => ?_
        have d4 := d3.same s4
        have hv4 := Dq.grow hv3 s4
        obtain ⟨a', xs', ea, _, hx4, hxs4⟩ := tup_at hv4
        cases ea
        have exs : xs' = xs := by
          have := s4 _ _ (kpH3 _ _ hxa ha.1 ha.2)
          rw [this] at hx4
          cases hx4
          rfl
        subst exs
        have hx' : xs'[j]? = some xs'[j] := List.getElem?_eq_getElem hj
        obtain ⟨e0, he0, dq0⟩ := hxs4.at hx'
        obtain ⟨m0, hm0, rfl⟩ : ∃ m0, m0 ∈ ms ∧ e0 = .int ((m0 : Nat) : Int) := by
          rw [List.getElem?_map] at he0
          obtain ⟨m0, h1, h2⟩ := Option.map_eq_some_iff.mp he0
          exact ⟨m0, List.mem_of_getElem? h1, h2.symm⟩
        refine ⟨_, rfl, _, rfl, _, rfl, a, xs', (j : Int), xs'[j], rfl, rfl, SqT.of hx4, atI_nat hx', _, rfl, _, _, rfl, rfl, ?_⟩
        have l0 := hms m0 hm0
        refine ⟨D, L, n + 1 + 1, xs'[j], _, rfl, d4, (by show n + 1 + 1 ≤ 890000 - 10 * ((1 : Nat) : Int); omega), by decide, dq0, .int _ (by omega) (by omega), fun _ => ⟨_, rfl⟩, fun u e H5 n5 _ fe dq5 d5 le5 kp5 => ⟨by show 1 ≤ sizeLine; decide, fun p hp => ?_⟩⟩
        have n6 := same_new (o := .tup [u]) hp
        have d6 := d5.same n6
        have kp46 : Kp D L H4 (upd H5 p (.tup [u])) := kp5.trans (kp_same n6)
        have hv6 : Dq (upd H5 p (.tup [u])) (okD D L) (.ref a) _ := hv4.mono fun b o kb z => ⟨kp46 b o z kb.1 kb.2, kb⟩
        have r6 : Dq (upd H5 p (.tup [u])) (okD D L) v1 _ := r4.mono fun b o kb z => ⟨kp46 b o z kb.1 kb.2, kb⟩
        have lds : (ms.map fun (n : Nat) => PyData.int (n : Int)).length ≤ 8 := by rw [List.length_map]; exact hm
        generalize eds : (ms.map fun (n : Nat) => PyData.int (n : Int)) = ds at *
        have c1 := cutG_len ds none (some (j : Int))
        have c2 := cutG_len ds (some ((j : Int) + 1)) none
        have okp : okD D L p := fr d5 p hp
        refine catA_read (K := K) (fr d6) r6 (.tup okp upd_same (.cons (Dq.grow dq5 n6) .nil)) (by simp only [List.length_cons, List.length_nil]; omega) fun y7 H7 s7 r7 => ?_
        refine DE.slice (G := envT (.ref a) _) (σ := [some (.ref D), some (.ref a), some (.int ((2 : Nat) : Int)), some (.int (j : Int))]) (DE.var rfl fun _ _ h => h) (po1_succ rfl) po1_no H7 (okD D L) _ (Dq.grow hv6 s7) (fr (d6.same s7)) fun v8 H8 s8 r8 => ?_
        have d8 := (d6.same s7).same s8
        refine catA_read (K := K) (fr d8) (Dq.grow r7 s8) r8 (by simp only [List.length_append, List.length_cons, List.length_nil]; omega) fun y9 H9 s9 r9 => ?_
        have sh : ∀ x ∈ ds, Show 10 1000 x := fun x hx => by
          rw [← eds] at hx
          obtain ⟨m, hm1, rfl⟩ := List.mem_map.mp hx
          exact (show_nat (Nat.le_trans (hms m hm1) (by decide))).mono (by decide) (by decide)
        have shA : ∀ x ∈ (cutG ds none (some (j : Int)) ++ [e]) ++ cutG ds (some ((j : Int) + 1)) none, Show 10 1000 x := fun x hx => by
          rcases List.mem_append.mp hx with z | z
          · rcases List.mem_append.mp z with z | z
            · exact sh x (cutG_mem z)
            · rw [List.mem_singleton.mp z]
              exact (fe (by decide)).show_
          · exact sh x (cutG_mem z)
        have lA : ((cutG ds none (some (j : Int)) ++ [e]) ++ cutG ds (some ((j : Int) + 1)) none).length ≤ 17 := by
          simp only [List.length_append, List.length_cons, List.length_nil]
          omega
        refine hq y9 _ H9 n5 ⟨(Show.tuple shA).mono (by decide) ?_, (fun z e => by cases e), (fun es e => by cases e; omega)⟩ (fun c => absurd c (by decide)) r9 (d8.same s9) ?_ (((kpH3.trans (kp_same s4)).trans kp46).trans (kp_same ((s7.trans s8).trans s9)))
        · have := Nat.mul_le_mul_right 1002 lA
          omega
        · have le5' : n5 ≤ n + 1 + 1 + 10 * (((1 : Nat) : Int) + 1) := le5
          show n5 ≤ n + 10 * (((2 : Nat) : Int) + 1)
          omega
end
end K58

set_option Elab.async false
set_option linter.all false
set_option maxRecDepth 100000
set_option maxHeartbeats 4000000
namespace K58
open PySem PySem.Spec PyProof.Rows L2 Rw
abbrev sDrawn : Stmt := top 27
abbrev NDrawn : List Str := ["deck", "many", "top", "letters_now", "k"]
theorem drawn_subs : (["abc", "abcdez", "az"] : List Str).all (fun x => decide (x.length ≤ 60) && (subsL (signs x)).all fun l => subs.contains (Txt.join "" l) && decide ((l.map (·.length)).sum + l.length * ("" : Str).length ≤ 16777216)) = true := by kernel_rfl
def spDrawn : Sp := fun vs H Q _ => ∃ (D L : Addr) (n m : Int), vs = [.ref D, .int m] ∧ Deck H D L n ∧ n ≤ 900000 ∧ 0 ≤ m ∧ m ≤ 8 ∧
  ∀ (u : V) (x : Str) (ms : List Nat) (H' : Hp), x ∈ subs → ms.length = m.toNat → (∀ i ∈ ms, i ≤ 100) → Dq H' (okD D L) u (.tuple [.str x, .tuple (ms.map fun (i : Nat) => .int (i : Int))]) → Deck H' D L (n + 20) → Kp D L H H' → Q u H'
theorem dqNats {H : Hp} {ok : Addr → Prop} : ∀ (ms : List Nat), DqAll H ok (ms.map fun (i : Nat) => V.int (i : Int)) (ms.map fun (i : Nat) => .int (i : Int))
  | [] => .nil
  | _ :: r => .cons (.int _) (dqNats r)
section
variable {P : Program} {w : World} {K : PySem.W.Frag} {mg : Str → Option Value} {base : Heap}
theorem scDrawn : FnScope NDrawn ["deck", "many"] (defScope sDrawn) := ⟨rfl, rfl, rfl, by decide +kernel, rfl, by decide +kernel, by decide +kernel⟩
theorem ok_drawn {f fP fD fR : Addr} {fd fdP fdD fdR : FuncData} (F : FunD K "_law_drawn" "_law_drawn" (defArgs sDrawn) (defBody sDrawn) (defScope sDrawn) [] [] f fd) (T : Ts K mg) (mr : mg "range" = none)
    (FP : FunD K "_law_pick" "_law_pick" (defArgs sPick) (defBody sPick) (defScope sPick) [] [] fP fdP) (mP : mg "_law_pick" = some (.ref fP))
    (FR : FunD K "_law_part" "_law_part" (defArgs sPart) (defBody sPart) (defScope sPart) [] [] fR fdR) (mR : mg "_law_part" = some (.ref fR))
    (FD : FunD K "_law_draw" "_law_draw" (defArgs sDraw) (defBody sDraw) (defScope sDraw) [] [] fD fdD) (mD : mg "_law_draw" = some (.ref fD)) : FnOk P w K mg base CX0 3 f fd ["deck", "many"] spDrawn := by
  have GD : FnOk P w K mg base CX0 1 fD fdD ["deck", "below"] spDraw := ok_draw FD T.toTxt
  have bD : Binds K fdD ["deck", "below"] [] := FD.bindsN fun _ _ _ _ _ _ us hl => match us, hl with | [_, _], _ => rfl
  have GP : FnOk P w K mg base CX0 2 fP fdP ["deck", "some"] spPick := ok_pick FP T.toTxt FD mD
  have bP : Binds K fdP ["deck", "some"] [] := FP.bindsN fun _ _ _ _ _ _ us hl => match us, hl with | [_, _], _ => rfl
  have GR : FnOk P w K mg base CX0 2 fR fdR ["deck", "some", "often"] spPart := ok_part FR T FD mD
  have bR : Binds K fdR ["deck", "some", "often"] [] := FR.bindsN fun _ _ _ _ _ _ us hl => match us, hl with | [_, _, _], _ => rfl
  refine F.ok scDrawn (fun vs H Q E h => ?_) (fun cdv A outer s H vs Q E hr h => ?_)
  · obtain ⟨_, _, _, _, rfl, _⟩ := h
    rfl
  obtain ⟨D, L, n, m, rfl, hd, hn, h0, h1, hq⟩ := h
  refine ⟨_, PSs.nox (pss_cons (ps_set (i := 2) scDrawn.nd rfl (by first | exact Or.inl rfl | exact Or.inr rfl) (pe_call GP (hr.mono (by decide)) rfl mP FP.kp bP .nil pass0 (pa_cons (pv 0) (pa_cons (pe_lst (pa_cons pe_int (pa_cons pe_int (pa_cons pe_int (pa_cons pe_int pa_nil))))) pa_nil))))
      (pss_cons (ps_set (i := 3) scDrawn.nd rfl (by first | exact Or.inl rfl | exact Or.inr rfl) (pe_join pe_str (pe_call GR (hr.mono (by decide)) rfl mR FR.kp bR .nil pass0 (pa_cons (pv 0) (pa_cons (pe_call GP (hr.mono (by decide)) rfl mP FP.kp bP .nil pass0 (pa_cons (pv 0) (pa_cons (pe_lst (pa_cons pe_str (pa_cons pe_str (pa_cons pe_str pa_nil)))) pa_nil))) (pa_cons pe_int pa_nil))))))
      (pss_one (ps_ret (pe_tup (pa_cons (pv 3) (pa_cons (pe_callTy call_tuple_of (by rfl) T.tuple (by decide +kernel) (pa_cons (pe_lc (own := [("k", 4)]) rfl scDrawn.nd (pi_range1 (by rfl) mr (pa_cons (pv 1) pa_nil)) (blkOk_by (N := NDrawn) (sc := defScope sDrawn) (by decide +kernel)) (fun _ _ _ _ _ => (pg_name (i := 4) scDrawn.nd rfl (by first | exact Or.inl rfl | exact Or.inr rfl))) (fun _ _ _ _ _ => pts_nil) (fun _ _ _ _ _ => (pe_call GD (hr.mono (by decide)) rfl mD FD.kp bD .nil pass0 (pa_cons (pv 0) (pa_cons (pv 2) pa_nil))))) pa_nil)) pa_nil))))))), ?_⟩
  obtain ⟨⟨oD, hD⟩, ⟨oL, hL⟩⟩ := hd.two
  refine ⟨_, rfl, (by decide), fun l fl => ⟨D, L, n, l, [.int 1, .int 2, .int 3, .int 100], rfl, hd.same (same_new fl), by omega, upd_same, (fun e => by rw [e, hL] at fl; cases fl), by decide, by decide, fun i x H1 hx hd1 hk1 => ?_⟩⟩
  have kp1 : Kp D L H H1 := (kp_same (same_new fl)).trans hk1
  obtain ⟨top, rfl, t1, t2⟩ : ∃ z : Int, x = .int z ∧ 1 ≤ z ∧ z ≤ 100 := by
    rcases i with _ | _ | _ | _ | i
    · cases hx; exact ⟨_, rfl, by decide, by decide⟩
    · cases hx; exact ⟨_, rfl, by decide, by decide⟩
    · cases hx; exact ⟨_, rfl, by decide, by decide⟩
    · cases hx; exact ⟨_, rfl, by decide, by decide⟩
    · cases hx
  refine ⟨⟨_, rfl⟩, ?_⟩
  obtain ⟨⟨oD1, hD1⟩, ⟨oL1, hL1⟩⟩ := hd1.two
  refine ⟨_, rfl, _, rfl, (by decide), fun l2 fl2 => ⟨D, L, n + 1, l2, [.str "abc", .str "abcdez", .str "az"], rfl, hd1.same (same_new fl2), by omega, upd_same, (fun e => by rw [e, hL1] at fl2; cases fl2), by decide, by decide, fun i2 x2 H2 hx2 hd2 hk2 => ?_⟩⟩
  have kp2 : Kp D L H H2 := kp1.trans ((kp_same (same_new fl2)).trans hk2)
  obtain ⟨z, rfl, hz⟩ : ∃ z : Str, x2 = .str z ∧ z ∈ (["abc", "abcdez", "az"] : List Str) := by
    rcases i2 with _ | _ | _ | i2
    · cases hx2; exact ⟨_, rfl, by simp⟩
    · cases hx2; exact ⟨_, rfl, by simp⟩
    · cases hx2; exact ⟨_, rfl, by simp⟩
    · cases hx2
  have dz := List.all_eq_true.mp drawn_subs z hz
  rw [Bool.and_eq_true, decide_eq_true_eq] at dz
  refine ⟨D, L, n + 1 + 1, 2, z, rfl, hd2, by have := dz.1; omega, dz.1, by decide, by decide, fun p ys H3 hy1 hy2 hd3 hk3 hp3 hg3 => ?_⟩
  have dy := List.all_eq_true.mp dz.2 ys hy2
  rw [Bool.and_eq_true, decide_eq_true_eq] at dy
  have kp3 : Kp D L H H3 := kp2.trans hk3
  refine ⟨"", p, ys, rfl, rfl, .inr (SqT.of hg3), dy.2, ?_⟩
  have zs : Txt.join "" ys ∈ subs := List.contains_iff_mem.mp dy.1
  have zl : (z.length : Int) ≤ 6 := by
    have := (by decide +kernel : (["abc", "abcdez", "az"] : List Str).all fun x => decide ((x.length : Int) ≤ 6))
    exact of_decide_eq_true (List.all_eq_true.mp this z hz)
  refine ⟨_, rfl, _, rfl, m, rfl, by omega, by omega, fun Dl hDl => ?_⟩
  have fDl := kp3.free hd3 hDl
  obtain ⟨⟨oD3, hD3⟩, ⟨oL3, hL3⟩⟩ := hd3.two
  have nD : Dl ≠ D := fun e => by rw [e, hD3] at hDl; cases hDl
  have nL : Dl ≠ L := fun e => by rw [e, hL3] at hDl; cases hDl
  refine lc_range (fun i H' => ∃ (ms : List Nat) (m' : Int), H' Dl = some (.lst (ms.map fun (i : Nat) => V.int (i : Int))) ∧ ms.length = i ∧ (∀ j ∈ ms, j ≤ 100) ∧ Deck H' D L m' ∧ m' ≤ n + 8 + i ∧ Kp D L H H') ?_ ?_ ?_
  · exact ⟨[], n + 1 + 1 + z.length, upd_same, rfl, (fun _ h => by cases h), hd3.up nD nL, by omega, kp3.trans (kp_same (same_new hDl))⟩
  · rintro i H4 hi ⟨ms, m', g1, g2, g3, g5, g6, g7⟩
    have hi8 : i < 8 := by omega
    refine ⟨rfl, yes_read ?_⟩
    refine iteT ⟨_, rfl, _, rfl, D, L, m', top, rfl, g5, by omega, t1, by omega, fun r H5 r0 r1 hd5 kp5 => ?_⟩
    have gl := kp5 _ _ g1 nD nL
    obtain ⟨r', rfl⟩ := Int.eq_ofNat_of_zero_le r0
    refine ⟨_, gl, small1000 (by rw [List.length_map]; omega), ms ++ [r'], m' + 1, by rw [upd_same, List.map_append]; rfl, by simp [g2], fun j hj => ?_, hd5.up nD nL, by omega, fun a o za q1 q2 => ?_⟩
    · rcases List.mem_append.mp hj with q | q
      · exact g3 j q
      · rw [List.mem_singleton.mp q]; omega
    · rw [upd_ne (ne_of_none za fDl)]
      exact kp5 a o (g7 a o za q1 q2) q1 q2
  · rintro H4 ⟨ms, m', g1, g2, g3, g5, g6, g7⟩
    refine ⟨Dl, _, rfl, .inl ⟨SqL.of g1, fun p2 hp2 => ⟨Nat.le_of_lt (small1000 (by show 2 ≤ 1000; decide)), fun p3 hp3 => ?_⟩⟩⟩
    obtain ⟨⟨oD4, hD4⟩, ⟨oL4, hL4⟩⟩ := g5.two
    have ok2 : ∀ q, H4 q = none → okD D L q := fun q hq => ⟨(fun e => by rw [e, hD4] at hq; cases hq), (fun e => by rw [e, hL4] at hq; cases hq)⟩
    have s2 := same_new (o := .tup (ms.map fun (i : Nat) => V.int (i : Int))) hp2
    have s3 := s2.trans (same_new (o := .tup [V.str (Txt.join "" ys), .ref p2]) hp3)
    refine hq _ _ ms _ zs (by omega) g3 (.tup (ok2 p3 (s2.free hp3)) upd_same (.cons (.str _) (.cons (.tup (ok2 p2 hp2) (same_new hp3 _ _ upd_same) (dqNats ms)) .nil))) ((g5.le (by omega)).same s3) (g7.trans (kp_same s3))
end
end K58

set_option Elab.async false
set_option linter.all false
set_option maxRecDepth 100000
set_option maxHeartbeats 4000000
namespace K58
open PySem PySem.Spec PyProof.Rows L2 Rw
abbrev sLaw : Stmt := top 28
abbrev NLaw : List Str := ["script", "deck", "go", "many", "one", "two", "turn", "bent", "lot", "both"]
def spLaw (K : PySem.W.Frag) : Sp := fun vs H Q _ => ∃ (a : Addr) (ns : List Int), vs = [.ref a] ∧ SqL K H a (ns.map V.int) ∧ ∀ H', Q (.bl true) H'
theorem pool_ab : Pool "a" "b" "ab" := ⟨signs "ab", of_decide_eq_true (by kernel_rfl : decide ((signs "ab").Pairwise ltS) = true), fun k => by
  have e1 : signs "ab" = signs "a" ++ signs "b" := by kernel_rfl
  rw [e1, List.mem_append], by kernel_rfl⟩
section
variable {P : Program} {w : World} {K : PySem.W.Frag} {mg : Str → Option Value} {base : Heap} {cB cO cL cW : Addr}
/-- a drawn pair, apart from the deck -/
def PrD (D L : Addr) (H : Hp) (o : Addr) (a : Str) (ms : List Nat) : Prop := ∃ p, (o ≠ D ∧ o ≠ L ∧ p ≠ D ∧ p ≠ L) ∧ H o = some (.tup [.str a, .ref p]) ∧ H p = some (.tup (nums ms))
theorem PrD.kp {D L : Addr} {H H' : Hp} {o : Addr} {a : Str} {ms : List Nat} (h : PrD D L H o a ms) (k : Kp D L H H') : PrD D L H' o a ms := by
  obtain ⟨p, ⟨n1, n2, n3, n4⟩, h1, h2⟩ := h
  exact ⟨p, ⟨n1, n2, n3, n4⟩, k _ _ h1 n1 n2, k _ _ h2 n3 n4⟩
theorem PrD.pr {D L : Addr} {H : Hp} {o : Addr} {a : Str} {ms : List Nat} (h : PrD D L H o a ms) : Pr H o a ms := by
  obtain ⟨p, _, h1, h2⟩ := h
  exact ⟨p, h1, h2⟩
theorem prD_of {D L : Addr} {H : Hp} {u : V} {a : Str} {ms : List Nat} (h : Dq H (okD D L) u (.tuple [.str a, .tuple (ms.map fun (i : Nat) => .int (i : Int))])) : ∃ o, u = .ref o ∧ PrD D L H o a ms := by
  obtain ⟨o, xs, rfl, ho, hx, r⟩ := tup_at h
  cases r with
  | cons r1 r2 =>
    cases r1
    cases r2 with
    | cons r3 r4 =>
      cases r4
      obtain ⟨p, ys, rfl, hp, hy, r5⟩ := tup_at r3
      have e : ys = nums ms := by
        have e2 : ms.map (fun (i : Nat) => PyData.int (i : Int)) = (ms.map cI).map .int := by rw [List.map_map]; rfl
        rw [e2] at r5
        rw [dq_ints r5, nums_cI]
      subst e
      exact ⟨o, rfl, p, ⟨ho.1, ho.2, hp.1, hp.2⟩, hx, hy⟩
theorem PrD.dq {D L : Addr} {H : Hp} {o : Addr} {a : Str} {ms : List Nat} (h : PrD D L H o a ms) : ∃ p, H o = some (.tup [.str a, .ref p]) ∧ Dq H (okD D L) (.ref p) (numD ms) := by
  obtain ⟨p, ⟨_, _, n3, n4⟩, h1, h2⟩ := h
  exact ⟨p, h1, .tup ⟨n3, n4⟩ h2 (dq_nums _)⟩
theorem two_read {σ : L2.St} {H : Hp} {k : VK} {D L : Addr} {m mm : Int} (i1 : σ[1]? = some (some (.ref D))) (i3 : σ[3]? = some (some (.int mm))) (h1 : 1 ≤ mm) (h4 : mm ≤ 4) (hd : Deck H D L m) (hm : m ≤ 1000)
    (q : ∀ (u : V) (x : Str) (ms : List Nat) (H' : Hp), x ∈ subs → 1 ≤ ms.length → ms.length ≤ 4 → (∀ i ∈ ms, i ≤ 100) → Dq H' (okD D L) u (.tuple [.str x, .tuple (ms.map fun (i : Nat) => .int (i : Int))]) → Deck H' D L (m + 22) → Kp D L H H' → k u H') :
    tCall spDrawn [] E0 (tCons (tVar 1) (tCons (tIf (tTest (tOp (rI0 fun i j => V.bl (decide (j < i))) (tCall spDraw [] E0 (tCons (tVar 1) (tCons (tC (V.int 5)) tNil))) (tC (V.int 0)))) (tVar 3)
      (tOp (rI0 fun i j => V.int (i + j)) (tC (V.int 1)) (tCall spDraw [] E0 (tCons (tVar 1) (tCons (tC (V.int 4)) tNil))))) tNil)) σ H k := by
  refine ⟨_, i1, _, i1, D, L, m, 5, rfl, hd, by omega, by decide, by decide, fun r H2 r0 r5 hd2 k2 => ⟨_, _, rfl, rfl, _, rfl, ite2 (fun _ => ?_) fun _ => ?_⟩⟩
  · refine ⟨_, i3, D, L, m + 1, mm, rfl, hd2, by omega, by omega, by omega, fun u x ms H3 hx hl hb dq hd3 k3 => ?_⟩
    exact q u x ms H3 hx (by omega) (by omega) hb dq (hd3.le (by omega)) (k2.trans k3)
  · refine ⟨_, i1, D, L, m + 1, 4, rfl, hd2, by omega, by decide, by decide, fun r3 H3 s0 s4 hd3 k3 => ⟨_, _, rfl, rfl, ?_⟩⟩
    refine ⟨D, L, m + 1 + 1, 1 + r3, rfl, hd3, by omega, by omega, by omega, fun u x ms H4 hx hl hb dq hd4 k4 => ?_⟩
    exact q u x ms H4 hx (by omega) (by omega) hb dq (hd4.le (by omega)) ((k2.trans k3).trans k4)
theorem show_hund {ms : List Nat} (h : ∀ i ∈ ms, i ≤ 100) (l : ms.length ≤ 4) : Show 20 100000 (numD ms) := (show_numN (fun n hn => Nat.le_trans (h n hn) (by decide)) (by omega)).mono (by decide) (by decide)
theorem mkc_read {σ : L2.St} {H : Hp} {Q : VK} {x : Str} {i j k : Nat} (hh : heardT x = true) (hl : x.length ≤ 60) (q : ∀ u H', Same H H' → Onl cL H' u x (norm [i, j, k]) → Q (.ref u) H') :
    tMake cL (fun vs H Q _ => spInit cB cL vs H Q E0) [] E0 (tCons (tC (.str x)) (tCons (tTup (tCons (tC (.int (i : Int))) (tCons (tC (.int (j : Int))) (tCons (tC (.int (k : Int))) tNil)))) tNil)) σ H Q :=
  ⟨(by show 3 ≤ sizeLine; decide), fun pt fpt => init_core (ms := [i, j, k]) hh hl (by simp) (by show 3 ≤ 1000; decide) upd_same fun u H2 s2 o => q u H2 ((same_new fpt).trans s2) o⟩
theorem scLaw : FnScope NLaw ["script"] (defScope sLaw) := ⟨rfl, rfl, rfl, by decide +kernel, rfl, by decide +kernel, by decide +kernel⟩
theorem ok_law {f fO fS fE fK fD fW fR fQ fOd fV fOr : Addr} {fd fdO fdK fdD fdW fdR fdQ fdOd fdV fdOr : FuncData} (F : FunD K "law" "law" (defArgs sLaw) (defBody sLaw) (defScope sLaw) [] [] f fd) (T : Tq P K mg cB cO cL cW fO fOr fS fE) (mr : mg "range" = none)
    (FOn : FunD K "__init__" "Onlooker.__init__" (defArgs sInit) (defBody sInit) (defScope sInit) [] [] fO fdO) (mL : mg "Onlooker" = some (.ref cL)) (GI : FnOk P w K mg base (CX P w) 3 fO fdO ["self", "letters", "classes"] (spInit cB cL))
    (FOr : FunD K "__or__" "Onlooker.__or__" (defArgs sOr) (defBody sOr) (defScope sOr) [] [] fOr fdOr) (GOr : FnOk P w K mg base (CX P w) 5 fOr fdOr ["self", "other"] (spOr cL cO))
    (FK : FunD K "_law_deck" "_law_deck" (defArgs sDeck) (defBody sDeck) (defScope sDeck) [] [] fK fdK) (mK : mg "_law_deck" = some (.ref fK))
    (FD : FunD K "_law_draw" "_law_draw" (defArgs sDraw) (defBody sDraw) (defScope sDraw) [] [] fD fdD) (mD : mg "_law_draw" = some (.ref fD))
    (FW : FunD K "_law_drawn" "_law_drawn" (defArgs sDrawn) (defBody sDrawn) (defScope sDrawn) [] [] fW fdW) (mW : mg "_law_drawn" = some (.ref fW)) (GW : FnOk P w K mg base CX0 3 fW fdW ["deck", "many"] spDrawn)
    (FR : FunD K "_law_right" "_law_right" (defArgs sR) (defBody sR) (defScope sR) [] [] fR fdR) (mR : mg "_law_right" = some (.ref fR)) (GR : FnG P w K mg base CX0 6 fR fdR ["letters_now", "classes_now"] spR)
    (FQ : FunD K "_law_pair_right" "_law_pair_right" (defArgs sPair) (defBody sPair) (defScope sPair) [] [] fQ fdQ) (mQ : mg "_law_pair_right" = some (.ref fQ)) (GQ : FnG P w K mg base CX0 7 fQ fdQ ["one", "two"] spPair)
    (FO : FunD K "_law_odd" "_law_odd" (defArgs sOdd) (defBody sOdd) (defScope sOdd) [] [] fOd fdOd) (mO : mg "_law_odd" = some (.ref fOd)) (GO : FnOk P w K mg base CX0 3 fOd fdOd ["deck", "it"] spOdd)
    (FV : FunD K "_law_bent" "_law_bent" (defArgs sBent) (defBody sBent) (defScope sBent) [] [] fV fdV) (mV : mg "_law_bent" = some (.ref fV)) (GV : FnOk P w K mg base CX0 6 fV fdV ["deck", "it", "deep"] (spBent 3)) :
    FnG P w K mg base CX0 8 f fd ["script"] (spLaw K) := by
  have GO0 := ok_to0 GI
  have bO : Binds K fdO ["self", "letters", "classes"] [] := FOn.bindsN fun _ _ _ _ _ _ us hl => match us, hl with | [_, _, _], _ => rfl
  have bOr : Binds K fdOr ["self", "other"] [] := FOr.bindsN fun _ _ _ _ _ _ us hl => match us, hl with | [_, _], _ => rfl
  have ROr := (ok_to0 GOr).raw bOr .nil
  have GK : FnOk P w K mg base CX0 1 fK fdK ["script"] (spDeck K) := ok_deck FK T.toTxt
  have bK : Binds K fdK ["script"] [] := FK.bindsN fun _ _ _ _ _ _ us hl => match us, hl with | [_], _ => rfl
  have GD : FnOk P w K mg base CX0 1 fD fdD ["deck", "below"] spDraw := ok_draw FD T.toTxt
  have bD : Binds K fdD ["deck", "below"] [] := FD.bindsN fun _ _ _ _ _ _ us hl => match us, hl with | [_, _], _ => rfl
  have bW : Binds K fdW ["deck", "many"] [] := FW.bindsN fun _ _ _ _ _ _ us hl => match us, hl with | [_, _], _ => rfl
  have bR : Binds K fdR ["letters_now", "classes_now"] [] := FR.bindsN fun _ _ _ _ _ _ us hl => match us, hl with | [_, _], _ => rfl
  have bQ : Binds K fdQ ["one", "two"] [] := FQ.bindsN fun _ _ _ _ _ _ us hl => match us, hl with | [_, _], _ => rfl
  have bOd : Binds K fdOd ["deck", "it"] [] := FO.bindsN fun _ _ _ _ _ _ us hl => match us, hl with | [_, _], _ => rfl
  have bV : Binds K fdV ["deck", "it", "deep"] [] := FV.bindsN fun _ _ _ _ _ _ us hl => match us, hl with | [_, _, _], _ => rfl
  refine fn_okG F scLaw (fun vs H Q E h => ?_) (fun cdv A outer s H vs Q E hg hr h => ?_)
  · obtain ⟨_, _, rfl, _⟩ := h
    rfl
  obtain ⟨a, ns, rfl, hs, hq⟩ := h
  refine ⟨_, (pss_cons (ps_set (i := 1) scLaw.nd rfl (by first | exact Or.inl rfl | exact Or.inr rfl) (pe_call GK (hr.mono (by decide)) rfl mK FK.kp bK .nil pass0 (pa_cons (pv 0) pa_nil)))
      (pss_cons (ps_for PassesOwn.never rfl (pi_range1 (by rfl) mr (pa_cons pe_int pa_nil)) (pg_name (i := 2) scLaw.nd rfl (by first | exact Or.inl rfl | exact Or.inr rfl))
        (pss_cons (ps_set (i := 3) scLaw.nd rfl (by first | exact Or.inl rfl | exact Or.inr rfl) (pe_op op_add pe_int (pe_call GD (hr.mono (by decide)) rfl mD FD.kp bD .nil pass0 (pa_cons (pv 1) (pa_cons pe_int pa_nil)))))
      (pss_cons (ps_par (i := 4) (j := 5) (by rfl) scLaw.nd rfl rfl (by decide) rfl rfl (pa_cons (pe_call GW (hr.mono (by decide)) rfl mW FW.kp bW .nil pass0 (pa_cons (pv 1) (pa_cons (pv 3) pa_nil))) (pa_cons (pe_call GW (hr.mono (by decide)) rfl mW FW.kp bW .nil pass0 (pa_cons (pv 1) (pa_cons (pe_ifExp (pt_cmpR op_gt (pe_call GD (hr.mono (by decide)) rfl mD FD.kp bD .nil pass0 (pa_cons (pv 1) (pa_cons pe_int pa_nil))) pe_int (nomark _)) (pv 3) (pe_op op_add pe_int (pe_call GD (hr.mono (by decide)) rfl mD FD.kp bD .nil pass0 (pa_cons (pv 1) (pa_cons pe_int pa_nil))))) pa_nil))) pa_nil)) (by rfl))
      (pss_cons (ps_if (PW.pt (pw_or (pt_not (pt_val (pe_callG GR hg (hr.mono (by decide)) rfl mR FR.kp bR .nil pass0 (pa_cons (pe_ix ix_tup (pv 4) pe_int (fun _ _ => rfl)) (pa_cons (pe_ix ix_tup (pv 4) pe_int (fun _ _ => rfl)) pa_nil))))) (pw_or (pt_not (pt_val (pe_callG GQ hg (hr.mono (by decide)) rfl mQ FQ.kp bQ .nil pass0 (pa_cons (pv 4) (pa_cons (pv 5) pa_nil))))) (pw_or1 (pt_not (pt_val (pe_callG GQ hg (hr.mono (by decide)) rfl mQ FQ.kp bQ .nil pass0 (pa_cons (pv 5) (pa_cons (pv 4) pa_nil))))))))) (pss_one (ps_ret pe_bl)) pss_nil)
      (pss_cons (ps_if (PW.pt (pw_or (pt_not (pt_val (pe_callG GQ hg (hr.mono (by decide)) rfl mQ FQ.kp bQ .nil pass0 (pa_cons (pv 4) (pa_cons (pv 4) pa_nil))))) (pw_or1 (pt_not (pt_val (pe_callG GQ hg (hr.mono (by decide)) rfl mQ FQ.kp bQ .nil pass0 (pa_cons (pv 4) (pa_cons (pe_tup (pa_cons pe_str (pa_cons (pe_ix ix_tup (pv 4) pe_int (fun _ _ => rfl)) pa_nil))) pa_nil)))))))) (pss_one (ps_ret pe_bl)) pss_nil)
      (pss_one (ps_for PassesOwn.never rfl (pi_range1 (by rfl) mr (pa_cons pe_int pa_nil)) (pg_name (i := 6) scLaw.nd rfl (by first | exact Or.inl rfl | exact Or.inr rfl))
        (pss_cons (ps_par (i := 7) (j := 8) (by rfl) scLaw.nd rfl rfl (by decide) rfl rfl (pa_cons (pe_call GO (hr.mono (by decide)) rfl mO FO.kp bOd .nil pass0 (pa_cons (pv 1) (pa_cons (pe_ix ix_tup (pv 4) pe_int (fun _ _ => rfl)) pa_nil))) (pa_cons (pe_call GV (hr.mono (by decide)) rfl mV FV.kp bV .nil pass0 (pa_cons (pv 1) (pa_cons (pe_ix ix_tup (pv 4) pe_int (fun _ _ => rfl)) (pa_cons pe_int pa_nil)))) pa_nil)) (by rfl))
      (pss_one (ps_if (PW.pt (pw_or (pt_not (pt_val (pe_callG GR hg (hr.mono (by decide)) rfl mR FR.kp bR .nil pass0 (pa_cons (pv 7) (pa_cons (pe_ix ix_tup (pv 4) pe_int (fun _ _ => rfl)) pa_nil))))) (pw_or (pt_not (pt_val (pe_callG GR hg (hr.mono (by decide)) rfl mR FR.kp bR .nil pass0 (pa_cons (pe_ix ix_tup (pv 4) pe_int (fun _ _ => rfl)) (pa_cons (pv 8) pa_nil))))) (pw_or1 (pt_not (pt_val (pe_callG GR hg (hr.mono (by decide)) rfl mR FR.kp bR .nil pass0 (pa_cons (pv 7) (pa_cons (pv 8) pa_nil))))))))) (pss_one (ps_ret pe_bl)) pss_nil))))))))))
      (pss_cons (ps_set (i := 9) scLaw.nd rfl (by first | exact Or.inl rfl | exact Or.inr rfl) (pe_op (op_binOwn T.orF T.orS T.orI ROr (hr.mono (by decide)) pass0) (pe_make T.mkL GO0 (hr.mono (by decide)) rfl mL bO .nil pass0 (pa_cons pe_str (pa_cons (pe_tup (pa_cons pe_int (pa_cons pe_int (pa_cons pe_int pa_nil)))) pa_nil))) (pe_make T.mkL GO0 (hr.mono (by decide)) rfl mL bO .nil pass0 (pa_cons pe_str (pa_cons (pe_tup (pa_cons pe_int (pa_cons pe_int (pa_cons pe_int pa_nil)))) pa_nil)))))
      (pss_one (ps_ret (pe_cmpR (op_eqD hr.units) (pe_lst (pa_cons (pe_fld (pe_make T.mkL GO0 (hr.mono (by decide)) rfl mL bO .nil pass0 (pa_cons pe_str (pa_cons (pe_tup (pa_cons pe_int (pa_cons pe_int (pa_cons pe_int pa_nil)))) pa_nil))) rfl) (pa_cons (pe_fld (pv 9) rfl) (pa_cons (pe_fld (pv 9) rfl) pa_nil)))) (pe_lst (pa_cons (pe_tup (pa_cons pe_int (pa_cons pe_int (pa_cons pe_int pa_nil)))) (pa_cons (pe_tup (pa_cons pe_int (pa_cons pe_int (pa_cons pe_int pa_nil)))) (pa_cons pe_str pa_nil)))) (nomark _))))))), ?_⟩
  refine rd_seq ?_
  refine ⟨_, rfl, a, ns, rfl, hs, fun D L H1 hd s1 fD fL neD => ?_⟩
  refine rd_seq ?_
  refine ⟨_, rfl, (by decide), (by decide), for_range (fun i σ' H' => ∃ (m : Int) (c2 c3 c4 c5 c6 c7 c8 : Option V), σ' = [some (.ref a), some (.ref D), c2, c3, c4, c5, c6, c7, c8, none] ∧ Deck H' D L m ∧ m ≤ i * 200) ?_ ?_ ?_⟩
  · exact ⟨0, none, none, none, none, none, none, none, rfl, hd, by simp⟩
  · rintro i _ H2 hi ⟨m, c2, c3, c4, c5, c6, c7, c8, rfl, hd2, hm⟩
    have hi4 : i < 4 := hi
    refine ⟨_, rfl, D, L, m, 4, rfl, hd2, by omega, by decide, by decide, fun r H3 r0 r4 hd3 k3 => ⟨_, _, rfl, rfl, ?_⟩⟩
    refine ⟨_, rfl, _, rfl, D, L, m + 1, 1 + r, rfl, hd3, by omega, by omega, by omega, fun u1 x1 ms1 H4 xs1 l1 b1 dq1 hd4 k4 => ?_⟩
    obtain ⟨o, rfl, p1⟩ := prD_of dq1
    refine rd_cons (two_read rfl rfl (by omega) (by omega) hd4 (by omega) fun u2 x2 ms2 H5 xs2 l2 l2' b2 dq2 hd5 k5 => ?_)
    obtain ⟨t, rfl, p2⟩ := prD_of dq2
    replace p1 := p1.kp k5
    refine ⟨_, _, rfl, ?_⟩
    have g1 := (good_sub xs1).1
    have g2 := (good_sub xs2).1
    have c1 : GoodC ms1 := ⟨fun e => by rw [e] at l1; simp at l1; omega, by omega⟩
    have c2 : GoodC ms2 := ⟨fun e => by rw [e] at l2; simp at l2, by omega⟩
    have sx1 : Show 20 100000 (.str x1) := g1.show_.mono (by decide) (by decide)
    have tx1 : ∀ z, PyData.str x1 = .str z → z.length ≤ 60 := fun z e => by cases e; exact Nat.le_trans g1.len (by decide)
    have sm1 : Show 20 100000 (numD ms1) := show_hund b1 (by omega)
    have tm1 : ∀ ds, numD ms1 = .tuple ds → ds.length ≤ 1000 := fun ds e => by
      unfold numD at e
      cases e
      rw [List.length_map]
      omega
    have nt : ∀ ds, PyData.str x1 = .tuple ds → ds.length ≤ 1000 := fun ds e => by cases e
    dsimp only
    refine rd_seq (rd_ifs (rd_or (rd_not (rd_b ?_))))
    obtain ⟨pa, e1, dqa⟩ := p1.dq
    refine ⟨_, rfl, o, _, 0, .str x1, rfl, rfl, SqT.of e1, rfl, _, rfl, o, _, 1, .ref pa, rfl, rfl, SqT.of e1, rfl, .str x1, .ref pa, okD D L, .str x1, numD ms1, rfl, .str x1, dqa, tx1, tm1, sx1, sm1, fun H6 s6 => ⟨_, rfl, iteF ?_⟩⟩
    refine rd_or (rd_not (rd_b ?_))
    refine ⟨_, rfl, _, rfl, o, t, x1, x2, ms1, ms2, rfl, p1.pr.grow s6, p2.pr.grow s6, g1, g2, c1, c2, fun H7 s7 => ⟨_, rfl, iteF ?_⟩⟩
    have s67 := s6.trans s7
    refine rd_not (rd_b ?_)
    refine ⟨_, rfl, _, rfl, t, o, x2, x1, ms2, ms1, rfl, p2.pr.grow s67, p1.pr.grow s67, g2, g1, c2, c1, fun H8 s8 => ⟨_, rfl, iteF ?_⟩⟩
    have s68 := s67.trans s8
    refine rd_next ?_
    dsimp only
    refine rd_seq (rd_ifs (rd_or (rd_not (rd_b ?_))))
    refine ⟨_, rfl, _, rfl, o, o, x1, x1, ms1, ms1, rfl, p1.pr.grow s68, p1.pr.grow s68, g1, g1, c1, c1, fun H9 s9 => ⟨_, rfl, iteF ?_⟩⟩
    have s69 := s68.trans s9
    refine rd_not (rd_b ?_)
    refine ⟨_, rfl, _, rfl, o, _, 1, .ref pa, rfl, rfl, SqT.of (s69 _ _ e1), rfl, (by show 2 ≤ sizeLine; decide), fun te fte => ?_⟩
    have s10 := s69.trans (same_new (o := .tup [.str "", .ref pa]) fte)
    obtain ⟨pa', _, e1', e2'⟩ := id p1
    have epa : pa' = pa := by
      have := e1'.symm.trans e1
      injection this with this
      injection this with this
      injection this with _ this
      injection this with this
      injection this
    subst epa
    refine ⟨o, te, x1, "", ms1, ms1, rfl, p1.pr.grow s10, ⟨pa', upd_same, s10 _ _ e2'⟩, g1, (good_sub (by decide +kernel)).1, c1, c1, fun H11 s11 => ⟨_, rfl, iteF ?_⟩⟩
    have s611 := s10.trans s11
    have hd11 := hd5.same s611
    have p11 := p1.kp (kp_same s611)
    refine rd_next ?_
    dsimp only
    refine ⟨_, rfl, (by decide), (by decide), for_range (fun j σ' H' => ∃ (m' : Int) (c6 c7 c8 : Option V), σ' = [some (.ref a), some (.ref D), some (.int (0 + (i : Int))), some (.int (1 + r)), some (.ref o), some (.ref t), c6, c7, c8, none] ∧ Deck H' D L m' ∧ m' ≤ i * 200 + 43 + j * 35 ∧ PrD D L H' o x1 ms1) ?_ ?_ ?_⟩
    · exact ⟨_, _, _, _, rfl, hd11, by omega, p11⟩
    · rintro j _ H12 hj ⟨m', c6, c7, c8, rfl, hd12, hm', p12⟩
      have hj4 : j < 4 := hj
      obtain ⟨pb, f1, dqb⟩ := p12.dq
      refine ⟨_, rfl, _, rfl, o, _, 0, .str x1, rfl, rfl, SqT.of f1, rfl, D, L, m', .str x1, .str x1, rfl, hd12, by omega, .str x1, .txt x1 xs1, fun ub eb H13 fb db hd13 k13 => ?_⟩
      have p13 := p12.kp k13
      obtain ⟨pc, f2, dqc⟩ := p13.dq
      refine ⟨_, rfl, _, rfl, o, _, 1, .ref pc, rfl, rfl, SqT.of f2, rfl, D, L, m' + 1, .ref pc, numD ms1, rfl, hd13, (by show m' + 1 ≤ 890000 - 10 * (((2 : Nat)) : Int); omega), Nat.le_refl _, dqc, .tup ms1 (by omega) b1, fun z => absurd z (by decide), fun ul el H14 n' fl _ dl hd14 hn' k14 => ⟨_, _, rfl, ?_⟩⟩
      have p14 := p13.kp k14
      have db14 := db.mono (H' := H14) (ok' := okD D L) fun a o k z => ⟨k14 a o z k.1 k.2, k⟩
      obtain ⟨pd, f3, dqd⟩ := p14.dq
      dsimp only
      refine rd_ifs (rd_or (rd_not (rd_b ?_)))
      refine ⟨_, rfl, _, rfl, o, _, 1, .ref pd, rfl, rfl, SqT.of f3, rfl, ub, .ref pd, okD D L, eb, numD ms1, rfl, db14, dqd, fb.w.txt, tm1, fb.w.show_, sm1, fun H15 s15 => ⟨_, rfl, iteF ?_⟩⟩
      refine rd_or (rd_not (rd_b ?_))
      refine ⟨_, rfl, o, _, 0, .str x1, rfl, rfl, SqT.of (s15 _ _ f3), rfl, _, rfl, .str x1, ul, okD D L, .str x1, el, rfl, .str x1, dl.grow s15, tx1, fl.tup, sx1, fl.show_, fun H16 s16 => ⟨_, rfl, iteF ?_⟩⟩
      have s1516 := s15.trans s16
      refine rd_not (rd_b ?_)
      refine ⟨_, rfl, _, rfl, ub, ul, okD D L, eb, el, rfl, db14.grow s1516, dl.grow s1516, fb.w.txt, fl.tup, fb.w.show_, fl.show_, fun H17 s17 => ⟨_, rfl, iteF ?_⟩⟩
      have s1517 := s1516.trans s17
      refine ⟨n', _, _, _, rfl, hd14.same s1517, ?_, p14.kp (kp_same s1517)⟩
      have : n' ≤ m' + 1 + 10 * (((2 : Nat) : Int) + 1) := hn'
      push_cast
      omega
    · rintro _ H' ⟨m', c6, c7, c8, rfl, hd', hm', _⟩
      refine ⟨m', _, _, _, _, _, _, _, rfl, hd', ?_⟩
      have e4 : (Int.toNat 4 : Int) = 4 := rfl
      push_cast
      omega
  · rintro _ H' ⟨m, c2, c3, c4, c5, c6, c7, c8, rfl, _, _⟩
    dsimp only
    refine rd_seq ?_
    refine rd_asg (rd_op (mkc_read (i := 0) (j := 0) (k := 1) (by decide +kernel) (by decide) fun u1 H2 s2 o1 => ?_))
    refine mkc_read (i := 0) (j := 1) (k := 1) (by decide +kernel) (by decide) fun u2 H3 s3 o2 => ?_
    have o1' := o1.grow s3
    obtain ⟨d1, r1, g1, _⟩ := id o1'
    obtain ⟨d2, r2, g2, _⟩ := id o2
    have n1 : norm [0, 0, 1] = [0, 0, 1] := by decide +kernel
    have n2 : norm [0, 1, 1] = [0, 1, 1] := by decide +kernel
    refine ⟨u1, d1, _, u2, d2, _, rfl, rfl, g1, g2, u1, u2, "a", "b", norm [0, 0, 1], norm [0, 1, 1], rfl, o1', o2, (by decide +kernel), (by decide +kernel), (by decide), (by decide), (by rw [n1]; simp), (by rw [n1]; decide), fun _ z u3 H4 pool s4 o3 => ?_, fun c => absurd (by rw [n1, n2]; rfl) c⟩
    have ez := pool.uniq pool_ab
    subst ez
    rw [n1, n2, show norm (([0, 0, 1] : List Nat).zip [0, 1, 1]) = [0, 1, 2] from by decide +kernel] at o3
    dsimp only
    obtain ⟨d3, p3, g3, h3⟩ := id o3
    refine rd_ret (rd_op (rd_lst (rd_cons ?_)))
    refine mkc_read (i := 5) (j := 2) (k := 5) (by decide +kernel) (by decide) fun u4 H5 s5 o4 => ?_
    rw [show norm ([5, 2, 5] : List Nat) = [0, 1, 0] from by decide +kernel] at o4
    obtain ⟨d4, p4, g4, h4⟩ := id o4
    refine ⟨u4, cL, d4, _, .ref p4, rfl, g4, T.cl, T.n2, rfl, _, rfl, u3, cL, d3, _, .ref p3, rfl, s5 _ _ g3, T.cl, T.n2, rfl, _, rfl, u3, cL, d3, _, .str "ab", rfl, s5 _ _ g3, T.cl, T.n1, rfl, (by show 3 ≤ sizeLine; decide), fun l1 fl1 => ?_⟩
    refine ⟨(by show 3 ≤ sizeLine; decide), fun t1 ft1 => ⟨(by show 3 ≤ sizeLine; decide), fun t2 ft2 => ⟨(by show 3 ≤ sizeLine; decide), fun l2 fl2 => ?_⟩⟩⟩
    have q1 := same_new (o := .lst [.ref p4, .ref p3, .str "ab"]) fl1
    have q2 := same_new (o := .tup [V.int 0, V.int 1, V.int 0]) ft1
    have q3 := same_new (o := .tup [V.int 0, V.int 1, V.int 2]) ft2
    have q4 := same_new (o := .lst [.ref t1, .ref t2, .str "ab"]) fl2
    have q34 := q3.trans q4
    have q24 := q2.trans q34
    have q14 := q1.trans q24
    refine ⟨.list [.tuple ([0, 1, 0].map fun (n : Nat) => .int (n : Int)), .tuple ([0, 1, 2].map fun (n : Nat) => .int (n : Int)), .str "ab"], .list [.tuple ([0, 1, 0].map fun (n : Nat) => .int (n : Int)), .tuple ([0, 1, 2].map fun (n : Nat) => .int (n : Int)), .str "ab"],
      .lst (SqL.of (q24 _ _ upd_same)) (.cons (.tup (SqT.of (q14 _ _ h4)) (dpNums [0, 1, 0])) (.cons (.tup (SqT.of (q14 _ _ (s5 _ _ h3))) (dpNums [0, 1, 2])) (.cons (.str "ab") .nil))),
      .lst (SqL.of upd_same) (.cons (.tup (SqT.of (q34 _ _ upd_same)) (dpNums [0, 1, 0])) (.cons (.tup (SqT.of (q4 _ _ upd_same)) (dpNums [0, 1, 2])) (.cons (.str "ab") .nil))), (by decide +kernel), (by decide +kernel), ?_⟩
    have e : PyData.eqv (.list [.tuple ([0, 1, 0].map fun (n : Nat) => .int (n : Int)), .tuple ([0, 1, 2].map fun (n : Nat) => .int (n : Int)), .str "ab"]) (.list [.tuple ([0, 1, 0].map fun (n : Nat) => .int (n : Int)), .tuple ([0, 1, 2].map fun (n : Nat) => .int (n : Int)), .str "ab"]) = true := by decide +kernel
    rw [e]
    exact hq _
end
end K58

set_option Elab.async false
set_option linter.all false
set_option maxRecDepth 100000
set_option maxHeartbeats 0
namespace K58
open PySem PySem.Spec PyProof.Rows L2 Rw
/-! the head: facts by names -/
abbrev Row1 : PySem.W.OpenLaw := PySem.Challenge.rw_rulewardens_k58_onlookers_of_any_value
abbrev Rr : PySem.W.OpenRow := PySem.W.OpenLaw.row Row1
def clsInit (s : Stmt) : Stmt := match s with
  | .ClassDef _ _ _ body _ _ _ _ _ _ _ => body.getD 0 (.Pass ⟨0, 0, 0, 0⟩)
  | _ => s
def d_is_integer : He.DefD := ⟨("is_integer", none), "is_integer", "is_integer", defArgs (top 5), defBody (top 5), defScope (top 5), [], []⟩
def d_is_heard : He.DefD := ⟨("is_heard", none), "is_heard", "is_heard", defArgs (top 6), defBody (top 6), defScope (top 6), [], []⟩
def d_are_classes : He.DefD := ⟨("are_classes", none), "are_classes", "are_classes", defArgs (top 8), defBody (top 8), defScope (top 8), [], []⟩
def d_put_anew : He.DefD := ⟨("put_anew", none), "put_anew", "put_anew", defArgs (top 9), defBody (top 9), defScope (top 9), [], []⟩
def d__law_deck : He.DefD := ⟨("_law_deck", none), "_law_deck", "_law_deck", defArgs (top 12), defBody (top 12), defScope (top 12), [], []⟩
def d__law_draw : He.DefD := ⟨("_law_draw", none), "_law_draw", "_law_draw", defArgs (top 13), defBody (top 13), defScope (top 13), [], []⟩
def d__law_pick : He.DefD := ⟨("_law_pick", none), "_law_pick", "_law_pick", defArgs (top 14), defBody (top 14), defScope (top 14), [], []⟩
def d__law_part : He.DefD := ⟨("_law_part", none), "_law_part", "_law_part", defArgs (top 15), defBody (top 15), defScope (top 15), [], []⟩
def d__law_odd : He.DefD := ⟨("_law_odd", none), "_law_odd", "_law_odd", defArgs (top 16), defBody (top 16), defScope (top 16), [], []⟩
def d__law_bent : He.DefD := ⟨("_law_bent", none), "_law_bent", "_law_bent", defArgs (top 17), defBody (top 17), defScope (top 17), [], []⟩
def d__law_is_whole : He.DefD := ⟨("_law_is_whole", none), "_law_is_whole", "_law_is_whole", defArgs (top 18), defBody (top 18), defScope (top 18), [], []⟩
def d__law_is_lot : He.DefD := ⟨("_law_is_lot", none), "_law_is_lot", "_law_is_lot", defArgs (top 19), defBody (top 19), defScope (top 19), [], []⟩
def d__law_is_heard : He.DefD := ⟨("_law_is_heard", none), "_law_is_heard", "_law_is_heard", defArgs (top 20), defBody (top 20), defScope (top 20), [], []⟩
def d__law_normal : He.DefD := ⟨("_law_normal", none), "_law_normal", "_law_normal", defArgs (top 21), defBody (top 21), defScope (top 21), [], []⟩
def d__law_bad : He.DefD := ⟨("_law_bad", none), "_law_bad", "_law_bad", defArgs (top 22), defBody (top 22), defScope (top 22), [], []⟩
def d__law_built : He.DefD := ⟨("_law_built", none), "_law_built", "_law_built", defArgs (top 23), defBody (top 23), defScope (top 23), [], []⟩
def d__law_right : He.DefD := ⟨("_law_right", none), "_law_right", "_law_right", defArgs (top 24), defBody (top 24), defScope (top 24), [], []⟩
def d__law_pooled : He.DefD := ⟨("_law_pooled", none), "_law_pooled", "_law_pooled", defArgs (top 25), defBody (top 25), defScope (top 25), [], []⟩
def d__law_pair_right : He.DefD := ⟨("_law_pair_right", none), "_law_pair_right", "_law_pair_right", defArgs (top 26), defBody (top 26), defScope (top 26), [], []⟩
def d__law_drawn : He.DefD := ⟨("_law_drawn", none), "_law_drawn", "_law_drawn", defArgs (top 27), defBody (top 27), defScope (top 27), [], []⟩
def d_law : He.DefD := ⟨("law", none), "law", "law", defArgs (top 28), defBody (top 28), defScope (top 28), [], []⟩
def d_Onlooker___init__ : He.DefD := ⟨("Onlooker", some "__init__"), "__init__", "Onlooker.__init__", defArgs (clsM (top 10) 0), defBody (clsM (top 10) 0), defScope (clsM (top 10) 0), [], []⟩
def d_Onlooker___eq__ : He.DefD := ⟨("Onlooker", some "__eq__"), "__eq__", "Onlooker.__eq__", defArgs (clsM (top 10) 1), defBody (clsM (top 10) 1), defScope (clsM (top 10) 1), [], []⟩
def d_Onlooker___or__ : He.DefD := ⟨("Onlooker", some "__or__"), "__or__", "Onlooker.__or__", defArgs (clsM (top 10) 2), defBody (clsM (top 10) 2), defScope (clsM (top 10) 2), [], []⟩
def d_Onlooker_sees_all_of : He.DefD := ⟨("Onlooker", some "sees_all_of"), "sees_all_of", "Onlooker.sees_all_of", defArgs (clsM (top 10) 3), defBody (clsM (top 10) 3), defScope (clsM (top 10) 3), [], []⟩
def fn0 : List He.DefD := [d_is_integer, d_is_heard, d_are_classes, d_put_anew, d__law_deck, d__law_draw, d__law_pick, d__law_part, d__law_odd, d__law_bent, d__law_is_whole, d__law_is_lot, d__law_is_heard, d__law_normal, d__law_bad]
def fn1 : List He.DefD := [d__law_built, d__law_right, d__law_pooled, d__law_pair_right, d__law_drawn, d_law, d_Onlooker___init__, d_Onlooker___eq__, d_Onlooker___or__, d_Onlooker_sees_all_of]
def fn : List He.DefD := fn0 ++ fn1
def xi0 : List XI := [⟨"BadOnlooker", "part", "BadOnlooker.__init__", clsInit (top 2)⟩]
def xi : List XI := xi0
def gl0 : List Str := ["WardError", "BadOnlooker", "OtherFaces", "Onlooker", "is_integer", "is_heard", "are_classes", "put_anew", "_law_deck", "_law_draw", "_law_pick", "_law_part", "_law_odd", "_law_bent", "_law_is_whole", "_law_is_lot", "_law_is_heard", "_law_normal", "_law_bad", "_law_built"]
def gl1 : List Str := ["_law_right", "_law_pooled", "_law_pair_right", "_law_drawn", "law"]
def gl : List Str := gl0 ++ gl1
def fr : List Str := ["int", "len", "list", "super", "range", "repr", "isinstance", "tuple", "all", "sorted", "set", "bool", "str", "zip"]
def fx : List He.Fa := [.cls "Onlooker", .noat "Onlooker" "letters", .noat "Onlooker" "classes", .mkr "Onlooker", .meth "Onlooker" "__eq__", .meth "Onlooker" "__or__", .meth "Onlooker" "sees_all_of", .exm "BadOnlooker" "BadOnlooker" true, .exm "OtherFaces" "OtherFaces" true]
def fa : List He.Fa := (gl.map He.Fa.glo ++ fr.map He.Fa.free) ++ fx
def ex (K : PySem.W.Frag) : Bool := wkB K && ((xi.all fun d => xiB Row1.prog K d.cls d.par d.qual) && ((wnB K (He.ga K "OtherFaces")) && ((decide (PySem.W.kitOne K (.ref (He.ga K "BadOnlooker")) (.ref (He.ga K "WardError")) = some true)) && ((decide (PySem.W.kitOne K (.ref (He.ga K "OtherFaces")) (.ref (He.ga K "WardError")) = some true)) && ((PySem.W.selfFirst K (He.ga K "Onlooker")) && (((["NoneType", "str", "list", "tuple"] : List String).all fun n => PySem.W.notFirst K (He.ga K "Onlooker") (.type n)) && (((["NoneType", "str", "list", "tuple"] : List String).all fun n => decide (PySem.W.kitOne K (.type n) (.ref (He.ga K "Onlooker")) = some false)) && ((decide (PySem.W.findIn K (.ref (He.ga K "Onlooker")) "__class__" = some (some (.builtin "object.__class__")))) && ((decide (PySem.W.mroIn K (He.ga K "Onlooker") (.type "object") = some true)) && ((decide (PySem.W.kitOne K (.ref (He.ga K "Onlooker")) (.ref (He.ga K "Onlooker")) = some true)) && (((K.lookup sysModules).isSome) && (true))))))))))))
abbrev hk : PySem.W.Hook := hookX 5 fa fn xi ex
def ob (s : PySem.W.SharedT) : AlX := obX 5 fa fn xi ex s
theorem ob_eq (s : PySem.W.SharedT) : ob s = hk.obs s.abs := obX_eq 5 fa fn xi ex s
def lo0 : List Str := ["WardError", "BadOnlooker", "OtherFaces", "is_integer", "is_heard", "are_classes", "put_anew", "Onlooker", "_law_deck", "_law_draw", "_law_pick", "_law_part", "_law_odd", "_law_bent", "_law_is_whole", "_law_is_lot", "_law_is_heard", "_law_normal", "_law_bad", "_law_built"]
def lo1 : List Str := ["_law_right", "_law_pooled", "_law_pair_right", "_law_drawn"]
def lo : List Str := lo0 ++ lo1
theorem run (w : World) : HandSHeadRun.RunEq Rr (PySem.W.view Rr.prog [28]) hk ob 16000 lo w := by
  intro os
  kernel_rfl
theorem xt_BadOnlooker : XiT "part" (clsInit (top 2)) := ⟨_, _, _, _, _, _, _, _, _, _, _, _, _, rfl, rfl, rfl, ⟨by decide, rfl, rfl, rfl, rfl⟩, rfl, fun _ _ _ _ _ _ _ _ _ _ => ⟨rfl, rfl⟩⟩

theorem facts {w : World} {K : PySem.W.Frag} {h : Heap} {mg : Str → Option Value} {f : Addr} (X : K.In h) (G : h.Ns mainGlobals mg) (hfa : mg ("law" : Str) = some (.ref f)) (c : SaysX fa fn xi ex K) :
    ∃ fd : FuncData, (∀ (s : Shared) (v : Value), BindsTo s fd ⟨[v], []⟩ [("script", v)]) ∧ ∀ base : Heap, K.In base → base.Ns mainGlobals mg → FnG Row1.prog w K mg base CX0 8 f fd ["script"] (spLaw K) := by
  have m := c.more
  unfold ex at m
  simp only [Bool.and_eq_true, decide_eq_true_eq] at m
  obtain ⟨mW, mX, m1, m2, m3, m4, m5, m6, m7, m8, m9, m10, _⟩ := m
  have ff : ∀ f ∈ fa, f.ok K = true := fun f hf => by
    obtain ⟨i, hi⟩ := List.getElem?_of_mem hf
    exact c.base.fact i hi
  have fg : ∀ x ∈ gl, mg x = some (.ref (He.ga K x)) := fun x hx => He.glo_ok X G (ff _ (List.mem_append.mpr (.inl (List.mem_append.mpr (.inl (List.mem_map.mpr ⟨x, hx, rfl⟩))))))
  have fr_ : ∀ x ∈ fr, mg x = none := fun x hx => He.free_ok X G (ff _ (List.mem_append.mpr (.inl (List.mem_append.mpr (.inr (List.mem_map.mpr ⟨x, hx, rfl⟩))))))
  have fe : ∀ y ∈ fx, y.ok K = true := fun y hy => ff y (List.mem_append.mpr (.inr hy))
  have xb : ∀ d ∈ xi, xiB Row1.prog K d.cls d.par d.qual = true := fun d hd => List.all_eq_true.mp mX d hd
  obtain ⟨fd_is_integer, F_is_integer⟩ := c.base.def_ 0 (d := d_is_integer) rfl
  obtain ⟨fd_is_heard, F_is_heard⟩ := c.base.def_ 1 (d := d_is_heard) rfl
  obtain ⟨fd_are_classes, F_are_classes⟩ := c.base.def_ 2 (d := d_are_classes) rfl
  obtain ⟨fd_put_anew, F_put_anew⟩ := c.base.def_ 3 (d := d_put_anew) rfl
  obtain ⟨fd__law_deck, F__law_deck⟩ := c.base.def_ 4 (d := d__law_deck) rfl
  obtain ⟨fd__law_draw, F__law_draw⟩ := c.base.def_ 5 (d := d__law_draw) rfl
  obtain ⟨fd__law_pick, F__law_pick⟩ := c.base.def_ 6 (d := d__law_pick) rfl
  obtain ⟨fd__law_part, F__law_part⟩ := c.base.def_ 7 (d := d__law_part) rfl
  obtain ⟨fd__law_odd, F__law_odd⟩ := c.base.def_ 8 (d := d__law_odd) rfl
  obtain ⟨fd__law_bent, F__law_bent⟩ := c.base.def_ 9 (d := d__law_bent) rfl
  obtain ⟨fd__law_is_whole, F__law_is_whole⟩ := c.base.def_ 10 (d := d__law_is_whole) rfl
  obtain ⟨fd__law_is_lot, F__law_is_lot⟩ := c.base.def_ 11 (d := d__law_is_lot) rfl
  obtain ⟨fd__law_is_heard, F__law_is_heard⟩ := c.base.def_ 12 (d := d__law_is_heard) rfl
  obtain ⟨fd__law_normal, F__law_normal⟩ := c.base.def_ 13 (d := d__law_normal) rfl
  obtain ⟨fd__law_bad, F__law_bad⟩ := c.base.def_ 14 (d := d__law_bad) rfl
  obtain ⟨fd__law_built, F__law_built⟩ := c.base.def_ 15 (d := d__law_built) rfl
  obtain ⟨fd__law_right, F__law_right⟩ := c.base.def_ 16 (d := d__law_right) rfl
  obtain ⟨fd__law_pooled, F__law_pooled⟩ := c.base.def_ 17 (d := d__law_pooled) rfl
  obtain ⟨fd__law_pair_right, F__law_pair_right⟩ := c.base.def_ 18 (d := d__law_pair_right) rfl
  obtain ⟨fd__law_drawn, F__law_drawn⟩ := c.base.def_ 19 (d := d__law_drawn) rfl
  obtain ⟨fd_law, F_law⟩ := c.base.def_ 20 (d := d_law) rfl
  obtain ⟨fd_Onlooker___init__, F_Onlooker___init__⟩ := c.base.def_ 21 (d := d_Onlooker___init__) rfl
  obtain ⟨fd_Onlooker___eq__, F_Onlooker___eq__⟩ := c.base.def_ 22 (d := d_Onlooker___eq__) rfl
  obtain ⟨fd_Onlooker___or__, F_Onlooker___or__⟩ := c.base.def_ 23 (d := d_Onlooker___or__) rfl
  obtain ⟨fd_Onlooker_sees_all_of, F_Onlooker_sees_all_of⟩ := c.base.def_ 24 (d := d_Onlooker_sees_all_of) rfl
  have wx_BadOnlooker : WxC Row1.prog K (He.ga K "BadOnlooker") "part" := wx_of xt_BadOnlooker (c.init 0 (d := ⟨"BadOnlooker", "part", "BadOnlooker.__init__", clsInit (top 2)⟩)) (xb ⟨"BadOnlooker", "part", "BadOnlooker.__init__", clsInit (top 2)⟩ (List.mem_of_getElem? (i := 0) rfl)) (by decide) (by decide)
  have e := hfa.symm.trans (fg "law" (by decide +kernel))
  cases e
  have b := FunD.bindsA (ps := ["script"]) F_law fun _ _ _ _ _ _ us hl => match us, hl with | [_], _ => rfl
  have wk := wkB_ok mW
  have hsy : ∃ o, K.lookup sysModules = some o := by
    cases e : K.lookup sysModules with
    | none => rw [e] at m10; cases m10
    | some o => exact ⟨o, rfl⟩
  have fz : ∀ x, x ∈ fr → mg x = none := fr_
  have T : Tq Row1.prog K mg (He.ga K "BadOnlooker") (He.ga K "OtherFaces") (He.ga K "Onlooker") (He.ga K "WardError") (He.ma K (He.ga K "Onlooker") "__init__") (He.ma K (He.ga K "Onlooker") "__or__") (He.ma K (He.ga K "Onlooker") "sees_all_of") (He.ma K (He.ga K "Onlooker") "__eq__") :=
    { int := fr_ _ (by decide +kernel), len := fr_ _ (by decide +kernel), list := fr_ _ (by decide +kernel), isin := fr_ _ (by decide +kernel), all := fr_ _ (by decide +kernel), sorted := fr_ _ (by decide +kernel), set := fr_ _ (by decide +kernel), repr := fr_ _ (by decide +kernel), bool := fr_ _ (by decide +kernel), str := fr_ _ (by decide +kernel), tuple := fr_ _ (by decide +kernel), super := fr_ _ (by decide +kernel), zip := fr_ _ (by decide +kernel),
      wb := wx_BadOnlooker, gb := fg _ (by decide +kernel), cl := He.cls_ok (fe (.cls "Onlooker") (List.mem_of_getElem? (i := 0) rfl)), n1 := He.noat_ok (fe (.noat "Onlooker" "letters") (List.mem_of_getElem? (i := 1) rfl)), n2 := He.noat_ok (fe (.noat "Onlooker" "classes") (List.mem_of_getElem? (i := 2) rfl)),
      gl := fg _ (by decide +kernel), gw := fg _ (by decide +kernel), mkL := He.mkr_ok (fe (.mkr "Onlooker") (List.mem_of_getElem? (i := 3) rfl)), wk := wk, kitB := m2, exB := He.exm_ok (fe (.exm "BadOnlooker" "BadOnlooker" true) (List.mem_of_getElem? (i := 7) rfl)),
      wo := wnB_ok m1, go := fg _ (by decide +kernel), orF := (He.meth_ok (fe (.meth "Onlooker" "__or__") (List.mem_of_getElem? (i := 5) rfl))).at_, orS := m4, orI := (He.meth_ok (fe (.meth "Onlooker" "__or__") (List.mem_of_getElem? (i := 5) rfl))).fn, meS := He.meth_ok (fe (.meth "Onlooker" "sees_all_of") (List.mem_of_getElem? (i := 6) rfl)), kitO := m3, exO := He.exm_ok (fe (.exm "OtherFaces" "OtherFaces" true) (List.mem_of_getElem? (i := 8) rfl)),
      eqF := (He.meth_ok (fe (.meth "Onlooker" "__eq__") (List.mem_of_getElem? (i := 4) rfl))).at_, eqI := (He.meth_ok (fe (.meth "Onlooker" "__eq__") (List.mem_of_getElem? (i := 4) rfl))).fn, nf := fun n hn => List.all_eq_true.mp m5 n hn, kD := fun n hn => of_decide_eq_true (List.all_eq_true.mp m6 n hn), si := ⟨m7, wk.cg, wk.ct, m8⟩, kO := m9 }
  have mr : mg "range" = none := fr_ _ (by decide +kernel)
  refine ⟨fd_law, fun s v => b s [v] rfl, fun base _ _ => ?_⟩
  have GI := ok_init (P := Row1.prog) (w := w) (base := base) F_Onlooker___init__ T.toTx F_is_heard (fg "is_heard" (by decide +kernel)) F_is_integer (fg "is_integer" (by decide +kernel)) F_are_classes (fg "are_classes" (by decide +kernel)) F_put_anew (fg "put_anew" (by decide +kernel))
  have GOr := ok_or (P := Row1.prog) (w := w) (base := base) F_Onlooker___or__ T.toTw F_Onlooker___init__ (fg "Onlooker" (by decide +kernel)) F_is_heard (fg "is_heard" (by decide +kernel)) F_is_integer (fg "is_integer" (by decide +kernel)) F_are_classes (fg "are_classes" (by decide +kernel)) F_put_anew (fg "put_anew" (by decide +kernel))
  have GS := ok_sees (P := Row1.prog) (w := w) (base := base) F_Onlooker_sees_all_of T.toTw F_put_anew (fg "put_anew" (by decide +kernel))
  have GB := ok_bad (P := Row1.prog) (w := w) (base := base) F__law_bad T.toTs F__law_is_whole (fg "_law_is_whole" (by decide +kernel)) F__law_is_heard (fg "_law_is_heard" (by decide +kernel))
  have GU := ok_built (P := Row1.prog) (w := w) (base := base) F__law_built T.toTz F_Onlooker___init__ F_is_heard (fg "is_heard" (by decide +kernel)) F_is_integer (fg "is_integer" (by decide +kernel)) F_are_classes (fg "are_classes" (by decide +kernel)) F_put_anew (fg "put_anew" (by decide +kernel))
  have GR := ok_R (P := Row1.prog) (w := w) (base := base) F__law_right T.toTs hsy F__law_bad (fg "_law_bad" (by decide +kernel)) GB F__law_normal (fg "_law_normal" (by decide +kernel)) F__law_built (fg "_law_built" (by decide +kernel)) GU
  have GP := ok_pool (P := Row1.prog) (w := w) (base := base) F__law_pooled T.toTv F_Onlooker___or__ F_Onlooker_sees_all_of GOr GS
  have GQ := ok_pair (P := Row1.prog) (w := w) (base := base) F__law_pair_right T hsy F_Onlooker___init__ (fg "Onlooker" (by decide +kernel)) F_is_heard (fg "is_heard" (by decide +kernel)) F_is_integer (fg "is_integer" (by decide +kernel)) F_are_classes (fg "are_classes" (by decide +kernel)) F_put_anew (fg "put_anew" (by decide +kernel)) F_Onlooker___eq__ F__law_normal (fg "_law_normal" (by decide +kernel)) F__law_pooled (fg "_law_pooled" (by decide +kernel)) GP
  have GW := ok_drawn (P := Row1.prog) (w := w) (base := base) F__law_drawn T.toTs mr F__law_pick (fg "_law_pick" (by decide +kernel)) F__law_part (fg "_law_part" (by decide +kernel)) F__law_draw (fg "_law_draw" (by decide +kernel))
  have GO := ok_odd (P := Row1.prog) (w := w) (base := base) F__law_odd T.toTs F__law_pick (fg "_law_pick" (by decide +kernel)) F__law_draw (fg "_law_draw" (by decide +kernel))
  have GV := ok_bent (P := Row1.prog) (w := w) (base := base) F__law_bent T.toTs (fg "_law_bent" (by decide +kernel)) F__law_odd (fg "_law_odd" (by decide +kernel)) GO F__law_draw (fg "_law_draw" (by decide +kernel)) 3
  exact ok_law F_law T mr F_Onlooker___init__ (fg "Onlooker" (by decide +kernel)) GI F_Onlooker___or__ GOr F__law_deck (fg "_law_deck" (by decide +kernel)) F__law_draw (fg "_law_draw" (by decide +kernel)) F__law_drawn (fg "_law_drawn" (by decide +kernel)) GW F__law_right (fg "_law_right" (by decide +kernel)) GR F__law_pair_right (fg "_law_pair_right" (by decide +kernel)) GQ F__law_odd (fg "_law_odd" (by decide +kernel)) GO F__law_bent (fg "_law_bent" (by decide +kernel)) GV
end K58
open PySem PySem.W PySem.Calls PyProof.Rows
theorem PySem.Challenge.cw_rulewardens_k58_onlookers_of_any_value_holds : PySem.Challenge.rw_rulewardens_k58_onlookers_of_any_value.Holds := by
  w_on; o_law
  refine HandSHeadRun.head_any (r := OpenLaw.row PySem.Challenge.rw_rulewardens_k58_onlookers_of_any_value) (q := view (OpenLaw.row PySem.Challenge.rw_rulewardens_k58_onlookers_of_any_value).prog [28]) (H := K58.hk) (ob := K58.ob) (M := 16000) (loose := K58.lo) (d := HandSHeadRun.topDef (OpenLaw.row PySem.Challenge.rw_rulewardens_k58_onlookers_of_any_value).prog 28) (kwd := []) K58.ob_eq
    (by kernel_rfl) (fun s => by kernel_rfl) K58.run (by kernel_rfl) (by kernel_rfl) (by kernel_rfl) (by rfl) (by first | assumption | decide +kernel) (by decide +kernel) ⟨rfl, rfl, rfl, rfl, rfl, by decide +kernel⟩ ?hw ?hc
  case hw => w_witness2
  case hc =>
    refine Rw.walk_ofG (l := PySem.Challenge.rw_rulewardens_k58_onlookers_of_any_value) (n := 63) (k := 8) (x := "script") (CX := fun _ => L2.CX0) rfl (by decide) (by kernel_rfl) ⟨rfl, by decide, by decide⟩ ?F (fun _ _ _ _ _ z => z)
    intro w mg fa h Y G hmg0
    obtain ⟨K, KX, c⟩ := Y
    have hmg : mg ("law" : PySem.Str) = some (.ref fa) := by
      have e : (HandSHeadRun.topDef (OpenLaw.row PySem.Challenge.rw_rulewardens_k58_onlookers_of_any_value).prog 28).name = ("law" : PySem.Str) := by kernel_rfl
      rw [← e]
      exact hmg0
    obtain ⟨fd, hb, hF⟩ := K58.facts (w := w) KX G hmg c
    exact ⟨K, fd, K58.spLaw K, KX, hb, fun H a ns hl _ hS => ⟨a, ns, rfl, hS, fun _ => rfl⟩, hF⟩
